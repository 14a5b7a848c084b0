import PyProof.Rows.All
import Wide.All
import OpenK.AllK
import Wide.FinOn
import KE.KDictKeyed
import KE.KeyNested
import HandS.ForMost
import HandS.ForExc
import HandS.Star
import HandS.Property
import HandS.ClsMeth
import HandS.IsInst
import HandS.TupAny
import HandS.Deep
import HandS.Style
import HandS.MakeKw
import HandS.Zip
import HandS.Rev
import HandS.RevRange
import HandS.TupLen
import HandS.SlotsOwn
import HandS.IterNext
import HandS.IterVal
import HandS.OwnIter
import KE.KExcSuper
import HandS.ExcInit
import HandS.TryMany
import HandS.ExcField
import HandS.ExcIs
import KE.KExcIs
import HandS.More
import HandS.DictComp
import HandS.SetFor
import HandS.TupSets
import HandS.Defaults
import HandS.MakeKwOnly
import PySem.Challenge.RW_fusewalks_k08_rows
set_option Elab.async false
set_option linter.all false
set_option maxRecDepth 100000
set_option maxHeartbeats 4000000
namespace FV
open PySem PySem.Spec PyProof.Rows L2

/-! ### data by value; a store of the objects that may still change -/
inductive D where
  | non | bl (b : Bool) | int (i : Int) | str (s : Str) | tup (xs : List D) | lst (xs : List D) | dct (t : Bool) (kvs : List (D × D)) | ins (c : Nat) (fs : List (Nat × D))
  | ref (n : Nat) | scr (ns : List Int) | exv (c : Nat) (fs : List (Nat × D))
mutual
def D.beq : D → D → Bool
  | .non, y => match y with | .non => true | _ => false
  | .bl a, y => match y with | .bl b => a == b | _ => false
  | .int a, y => match y with | .int b => a == b | _ => false
  | .str a, y => match y with | .str b => a == b | _ => false
  | .tup a, y => match y with | .tup b => D.beqs a b | _ => false
  | .lst a, y => match y with | .lst b => D.beqs a b | _ => false
  | .dct t a, y => match y with | .dct u b => t == u && D.beqk a b | _ => false
  | .ins c a, y => match y with | .ins d b => c == d && D.beqf a b | _ => false
  | .exv c a, y => match y with | .exv d b => c == d && D.beqf a b | _ => false
  | .ref a, y => match y with | .ref b => a == b | _ => false
  | .scr a, y => match y with | .scr b => a == b | _ => false
def D.beqs : List D → List D → Bool
  | [], y => match y with | [] => true | _ => false
  | x :: xs, y => match y with | y :: ys => D.beq x y && D.beqs xs ys | _ => false
def D.beqk : List (D × D) → List (D × D) → Bool
  | [], y => match y with | [] => true | _ => false
  | (k, x) :: xs, y => match y with | (q, y) :: ys => D.beq k q && D.beq x y && D.beqk xs ys | _ => false
def D.beqf : List (Nat × D) → List (Nat × D) → Bool
  | [], y => match y with | [] => true | _ => false
  | (k, x) :: xs, y => match y with | (q, y) :: ys => k == q && D.beq x y && D.beqf xs ys | _ => false
end
mutual
theorem D.beq_iff : ∀ a b : D, D.beq a b = true ↔ a = b
  | .non, b => by cases b <;> simp [D.beq]
  | .bl _, b => by cases b <;> simp [D.beq]
  | .int _, b => by cases b <;> simp [D.beq]
  | .str _, b => by cases b <;> simp [D.beq]
  | .ref _, b => by cases b <;> simp [D.beq]
  | .scr _, b => by cases b <;> simp [D.beq]
  | .tup xs, b => by
    cases b with
    | tup ys => simp [D.beq, D.beqs_iff xs ys]
    | _ => simp [D.beq]
  | .lst xs, b => by
    cases b with
    | lst ys => simp [D.beq, D.beqs_iff xs ys]
    | _ => simp [D.beq]
  | .dct t xs, b => by
    cases b with
    | dct u ys => simp [D.beq, D.beqk_iff xs ys]
    | _ => simp [D.beq]
  | .ins c xs, b => by
    cases b with
    | ins d ys => simp [D.beq, D.beqf_iff xs ys]
    | _ => simp [D.beq]
  | .exv c xs, b => by
    cases b with
    | exv d ys => simp [D.beq, D.beqf_iff xs ys]
    | _ => simp [D.beq]
theorem D.beqs_iff : ∀ a b : List D, D.beqs a b = true ↔ a = b
  | [], b => by cases b <;> simp [D.beqs]
  | x :: xs, b => by
    cases b with
    | nil => simp [D.beqs]
    | cons y ys => simp [D.beqs, D.beq_iff x y, D.beqs_iff xs ys]
theorem D.beqk_iff : ∀ a b : List (D × D), D.beqk a b = true ↔ a = b
  | [], b => by cases b <;> simp [D.beqk]
  | (k, x) :: xs, b => by
    cases b with
    | nil => simp [D.beqk]
    | cons y ys => obtain ⟨q, y⟩ := y; simp [D.beqk, D.beq_iff k q, D.beq_iff x y, D.beqk_iff xs ys]
theorem D.beqf_iff : ∀ a b : List (Nat × D), D.beqf a b = true ↔ a = b
  | [], b => by cases b <;> simp [D.beqf]
  | (k, x) :: xs, b => by
    cases b with
    | nil => simp [D.beqf]
    | cons y ys => obtain ⟨q, y⟩ := y; simp [D.beqf, D.beq_iff x y, D.beqf_iff xs ys]
end
instance : DecidableEq D := fun a b => decidable_of_iff _ (D.beq_iff a b)
instance : Inhabited D := ⟨.non⟩

inductive DObj where
  | lst (xs : List D)
  | ins (c : Nat) (fs : List (Nat × D))
  | dct (t : Bool) (kvs : List (D × D))
  | dead
  deriving DecidableEq
abbrev DSto := List DObj
abbrev DEnv := List (Option D)
inductive DRes (α : Type) where
  | ok (a : α) (st : DSto)
  | exc (c : Nat) (fs : List (Nat × D)) (st : DSto)
  | bad
def DRes.bind {α β : Type} : DRes α → (α → DSto → DRes β) → DRes β
  | .ok a st, f => f a st
  | .exc c fs st, _ => .exc c fs st
  | .bad, _ => .bad
@[simp] theorem DRes.bind_ok {α β : Type} (a : α) (st : DSto) (f : α → DSto → DRes β) : (DRes.ok a st).bind f = f a st := id rfl
@[simp] theorem DRes.bind_exc {α β : Type} (c : Nat) (fs) (st : DSto) (f : α → DSto → DRes β) : (DRes.exc c fs st : DRes α).bind f = .exc c fs st := id rfl
@[simp] theorem DRes.bind_bad {α β : Type} (f : α → DSto → DRes β) : (DRes.bad : DRes α).bind f = .bad := id rfl
abbrev Den := DEnv → DSto → DRes D
abbrev DenT := DEnv → DSto → DRes Bool
abbrev DenA := DEnv → DSto → DRes (List D)
abbrev FnD := List D → DSto → DRes D
inductive DStm where
  | nx (ρ : DEnv) (st : DSto)
  | rt (d : D) (st : DSto)
  | bk (ρ : DEnv) (st : DSto)
  | ct (ρ : DEnv) (st : DSto)
  | exc (c : Nat) (fs : List (Nat × D)) (ρ : DEnv) (st : DSto)
  | bad
abbrev DenS := DEnv → DSto → DStm

/-! ### how data lie in the abstract heap -/
structure Tb where
  P : Program
  w : World
  K : PySem.W.Frag
  CT : List Addr
  FT : List Str
  nd : FT.Nodup
  /-- the exception that is handled: itself, its dict, its class -/
  ex : Option (Addr × Addr × Nat)
/-- where the store's objects stand; what is being built beside it -/
structure Mu where
  l : List Addr
  x : List Addr
abbrev Mu.add (M : Mu) (a : Addr) : Mu := ⟨M.l ++ [a], M.x⟩
abbrev Mu.build (M : Mu) (a : Addr) : Mu := ⟨M.l, a :: M.x⟩
/-- neither in the store nor being built -/
def Fr (M : Mu) (a : Addr) : Prop := a ∉ M.l ∧ a ∉ M.x
/-- a list of the written part -/
def SqK (K : PySem.W.Frag) (a : Addr) (xs : List V) : Prop :=
  ∃ (o : Obj) (its : Array Value) (n : Nat), K.lookup a = some o ∧ o.cls = .type "list" ∧ o.dict = none ∧ o.data = .seq its n ∧ its.size ≤ sizeLine ∧ Vals xs its.toList
def keyD : Key → D
  | .inl i => .int i
  | .inr s => .str s
mutual
/-- data as a key -/
def keyN : D → Option NestedKey
  | .non => some .none
  | .bl b => some (.num (if b then 1 else 0))
  | .int i => some (.num i)
  | .str s => some (.text s)
  | .tup xs => (keyNs xs).map .tup
  | _ => none
def keyNs : List D → Option (List NestedKey)
  | [] => some []
  | x :: xs => (keyN x).bind fun a => (keyNs xs).map fun b => a :: b
end
/-- a dict whose keys are tuples: its entries, told of its own object alone -/
def NdO (P : Program) (w : World) (a : Addr) (ks : List (NestedKey × Addr × V)) : Heap → Prop := fun h => (a == sysModules) = false ∧ ks.length ≤ sizeLine ∧
  ∃ (xs : List (NestedKey × Addr × Value)), Paired (fun (p : NestedKey × Addr × V) (q : NestedKey × Addr × Value) => p.1 = q.1 ∧ p.2.1 = q.2.1 ∧ RelV p.2.2 q.2.2) ks xs ∧
    ∃ o es ep, h.get? a = some o ∧ o.ExactDict ∧ o.data = .dict es ep ∧ es.toList = xs.map (entryOfKey (nestedKind P w)) ∧ (xs.map (·.1)).Nodup
section
variable (T : Tb) (M : Mu) (H : Hp)
mutual
def RV : D → V → Prop
  | .non, v => v = .non
  | .bl b, v => v = .bl b
  | .int i, v => v = .int i
  | .str s, v => v = .str s
  | .tup xs, v => ∃ a vs, v = .ref a ∧ Fr M a ∧ H a = some (.tup vs) ∧ RVs xs vs
  | .lst xs, v => ∃ a vs, v = .ref a ∧ Fr M a ∧ H a = some (.lst vs) ∧ RVs xs vs
  | .dct t kvs, v => ∃ a, v = .ref a ∧ Fr M a ∧ ((t = false ∧ ∃ ks, Rd H a (.dK ks) ∧ RK kvs ks) ∨ t = true ∧ ∃ ks, H a = some (.ext (NdO T.P T.w a ks)) ∧ RN kvs ks)
  | .ins c fs, v => ∃ a C dx vs, v = .ref a ∧ Fr M a ∧ T.CT[c]? = some C ∧ Cls T.K C ∧ H a = some (.ins C dx vs) ∧ RF C fs vs
  | .ref n, v => ∃ a, v = .ref a ∧ M.l[n]? = some a
  | .scr ns, v => ∃ a, v = .ref a ∧ ((∃ o, Fr M a ∧ H a = some (.frz o (.lst (ns.map V.int)))) ∨ SqK T.K a (ns.map V.int))
  | .exv c fs, v => ∃ a dd xs, v = .ref a ∧ T.ex = some (a, dd, c) ∧ Fr M dd ∧ H dd = some (.xd xs) ∧ RX fs xs
def RVs : List D → List V → Prop
  | [], vs => vs = []
  | x :: xs, vs => ∃ v ws, vs = v :: ws ∧ RV x v ∧ RVs xs ws
def RK : List (D × D) → List (Key × V) → Prop
  | [], ks => ks = []
  | (k, d) :: r, ks => ∃ q v ws, ks = (q, v) :: ws ∧ k = keyD q ∧ RV d v ∧ RK r ws
def RN : List (D × D) → List (NestedKey × Addr × V) → Prop
  | [], ks => ks = []
  | (k, d) :: r, ks => ∃ q b v ws, ks = (q, b, v) :: ws ∧ keyN k = some q ∧ q.depth ≤ 8 ∧ RV k (.ref b) ∧ RV d v ∧ RN r ws
def RF (C : Addr) : List (Nat × D) → List (Str × V) → Prop
  | [], vs => vs = []
  | (i, d) :: r, vs => ∃ n v ws, vs = (n, v) :: ws ∧ T.FT[i]? = some n ∧ NoAttr T.K C n ∧ RV d v ∧ RF C r ws
def RX : List (Nat × D) → List (Str × V) → Prop
  | [], vs => vs = []
  | (i, d) :: r, vs => ∃ n v ws, vs = (n, v) :: ws ∧ T.FT[i]? = some n ∧ RV d v ∧ RX r ws
end
def RO : DObj → Addr → Prop
  | .lst xs, a => ∃ vs, H a = some (.lst vs) ∧ RVs T M H xs vs
  | .ins c fs, a => ∃ C dx vs, T.CT[c]? = some C ∧ Cls T.K C ∧ H a = some (.ins C dx vs) ∧ RF T M H C fs vs
  | .dct t kvs, a => (t = false ∧ ∃ ks, H a = some (.dK ks) ∧ RK T M H kvs ks) ∨ t = true ∧ ∃ ks, H a = some (.ext (NdO T.P T.w a ks)) ∧ RN T M H kvs ks
  | .dead, a => ∃ u, H a = some u ∧ (∀ xs, u ≠ .tup xs) ∧ ∀ o w, u ≠ .frz o w
structure SOk (st : DSto) : Prop where
  len : M.l.length = st.length
  ro : ∀ (i : Nat) (o : DObj) (a : Addr), st[i]? = some o → M.l[i]? = some a → RO T M H o a
  inj : ∀ (i j : Nat) (a : Addr), M.l[i]? = some a → M.l[j]? = some a → i = j
  dis : ∀ a ∈ M.l, a ∉ M.x
  bld : ∀ a ∈ M.x, ∃ o, H a = some o
structure EOk (ρ : DEnv) (σ : L2.St) : Prop where
  len : ρ.length = σ.length
  val : ∀ (i : Nat) (d : D), ρ[i]? = some (some d) → ∃ v, σ[i]? = some (some v) ∧ RV T M H d v
end
/-- kept; a dict may be locked meanwhile -/
def Kp (o : HO) (r : Option HO) : Prop := r = some o ∨ ∃ kvs ob, o = .dK kvs ∧ r = some (.frz ob o)
theorem Kp.eq {o : HO} {r : Option HO} (h : Kp o r) (n : ∀ kvs, o ≠ .dK kvs := by intro _ z; cases z) : r = some o := h.elim id fun ⟨kvs, _, e, _⟩ => absurd e (n kvs)
theorem Kp.some {o : HO} {r : Option HO} (h : Kp o r) : ∃ u, r = .some u := h.elim (fun e => ⟨_, e⟩) fun ⟨_, _, _, e⟩ => ⟨_, e⟩
theorem Kp.then {o : HO} {r r' : Option HO} (h : Kp o r) (k : ∀ u, r = .some u → Kp u r') : Kp o r' := by
  rcases h with e | ⟨kvs, ob, e, e2⟩
  · exact k _ e
  · exact .inr ⟨kvs, ob, e, (k _ e2).eq⟩
theorem Kp.rd {H H' : Hp} {a : Addr} {kvs : List (Key × V)} (h : Rd H a (.dK kvs)) (k : ∀ u, H a = .some u → Kp u (H' a)) : Rd H' a (.dK kvs) := by
  rcases h with e | ⟨ob, e⟩
  · rcases k _ e with e2 | ⟨_, ob, _, e2⟩
    · exact .inl e2
    · exact .inr ⟨ob, e2⟩
  · exact .inr ⟨ob, (k _ e).eq⟩
theorem rd_some {H : Hp} {a : Addr} {u : HO} (h : Rd H a u) : ∃ v, H a = .some v := h.elim (fun e => ⟨_, e⟩) fun ⟨_, e⟩ => ⟨_, e⟩
/-- data of the one stand in the other -/
structure Mo (M : Mu) (H : Hp) (M' : Mu) (H' : Hp) : Prop where
  get : ∀ (n : Nat) (a : Addr), M.l[n]? = some a → M'.l[n]? = some a
  kp : ∀ a o, H a = some o → Fr M a → Kp o (H' a) ∧ Fr M' a
structure Ex (M : Mu) (H : Hp) (M' : Mu) (H' : Hp) : Prop where
  pre : ∃ ν, M'.l = M.l ++ ν
  x : M'.x = M.x
  kp : ∀ a o, H a = some o → a ∉ M.l → Kp o (H' a)
  bx : ∀ a o, H a = some o → a ∉ M.l → a ∈ M.x → H' a = some o
  nw : ∀ a, a ∈ M'.l → a ∉ M.l → H a = none ∧ a ∉ M.x

section
variable {T : Tb} {M M' M1 M2 : Mu} {H H' H1 H2 : Hp} {st st' : DSto} {a : Addr}
theorem Mo.of (get : ∀ (n : Nat) (a : Addr), M.l[n]? = some a → M'.l[n]? = some a) (k : ∀ a o, H a = some o → Fr M a → H' a = some o ∧ Fr M' a) : Mo M H M' H' := ⟨get, fun a o h f => ⟨.inl (k a o h f).1, (k a o h f).2⟩⟩
theorem Mo.refl : Mo M H M H := .of (fun _ _ h => h) fun _ _ h k => ⟨h, k⟩
theorem Mo.trans (x : Mo M H M1 H1) (y : Mo M1 H1 M2 H2) : Mo M H M2 H2 := ⟨fun n a h => y.get n a (x.get n a h), fun a o h k =>
  have ⟨k1, f1⟩ := x.kp a o h k
  ⟨k1.then fun u e => (y.kp a u e f1).1, let ⟨_, e⟩ := k1.some; (y.kp a _ e f1).2⟩⟩
theorem Mo.by_ (x : Mo M H M1 H1) (a : Addr) (o : HO) (h : H a = some o) (k : Fr M a) (n : ∀ kvs, o ≠ .dK kvs := by intro _ z; cases z) : H1 a = some o ∧ Fr M1 a := ⟨(x.kp a o h k).1.eq n, (x.kp a o h k).2⟩
theorem Ex.fr (x : Ex M H M1 H1) (a : Addr) (o : HO) (h : H a = some o) (k : a ∉ M.l) (n : ∀ kvs, o ≠ .dK kvs := by intro _ z; cases z) : H1 a = some o := (x.kp a o h k).eq n
theorem Ex.mo (x : Ex M H M' H') : Mo M H M' H' := by
  refine ⟨fun n a h => ?_, fun a o h k => ⟨x.kp a o h k.1, fun z => ?_, fun z => ?_⟩⟩
  · obtain ⟨ν, e⟩ := x.pre
    rw [e, List.getElem?_append_left (List.getElem?_eq_some_iff.mp h).1]
    exact h
  · have := (x.nw a z k.1).1
    rw [h] at this; cases this
  · rw [x.x] at z; exact k.2 z
theorem Ex.refl : Ex M H M H := ⟨⟨[], by simp⟩, rfl, fun _ _ h _ => .inl h, fun _ _ h _ _ => h, fun a h n => absurd h n⟩
theorem Ex.of (pre : ∃ ν, M'.l = M.l ++ ν) (hx : M'.x = M.x) (fr : ∀ a o, H a = some o → a ∉ M.l → H' a = some o) (nw : ∀ a, a ∈ M'.l → a ∉ M.l → H a = none ∧ a ∉ M.x) : Ex M H M' H' :=
  ⟨pre, hx, fun a o h k => .inl (fr a o h k), fun a o h k _ => fr a o h k, nw⟩
theorem Ex.trans (x : Ex M H M1 H1) (y : Ex M1 H1 M2 H2) : Ex M H M2 H2 := by
  obtain ⟨n1, e1⟩ := x.pre
  obtain ⟨n2, e2⟩ := y.pre
  have nl : ∀ a o, H a = some o → a ∉ M.l → a ∉ M1.l := fun a o h f z => by
    have := (x.nw a z f).1
    rw [h] at this; cases this
  refine ⟨⟨n1 ++ n2, by rw [e2, e1, List.append_assoc]⟩, y.x.trans x.x, fun a o h f => (x.kp a o h f).then fun u e => y.kp a u e (nl a o h f), fun a o h f z => y.bx a o (x.bx a o h f z) (nl a o h f) (by rw [x.x]; exact z), fun a h ha => ?_⟩
  by_cases z : a ∈ M1.l
  · exact x.nw a z ha
  · obtain ⟨y1, y2⟩ := y.nw a h z
    rw [x.x] at y2
    refine ⟨?_, y2⟩
    cases q : H a with
    | none => rfl
    | some o =>
      obtain ⟨u, e⟩ := (x.kp a o q ha).some
      rw [y1] at e; cases e
/-- a dict told by value is locked for good -/
theorem ex_lock {d : Addr} {kvs : List (Key × V)} {ob : Obj} (h : H d = some (.dK kvs)) (f : Fr M d) : Ex M H M (upd H d (.frz ob (.dK kvs))) := by
  refine ⟨⟨[], by simp⟩, rfl, fun a o e _ => ?_, fun a o e _ k => ?_, fun a h n => absurd h n⟩
  · by_cases z : a = d
    · subst z
      rw [h] at e
      cases e
      exact .inr ⟨kvs, ob, rfl, upd_same⟩
    · exact .inl (by rw [upd_ne z]; exact e)
  · have z : a ≠ d := fun z => f.2 (by rw [← z]; exact k)
    rw [upd_ne z]; exact e
theorem Ex.get (x : Ex M H M' H') {n : Nat} (h : M.l[n]? = some a) : M'.l[n]? = some a := x.mo.get n a h
mutual
theorem RV.mo (x : Mo M H M' H') : ∀ {d : D} {v : V}, RV T M H d v → RV T M' H' d v
  | .non, _, h => by simpa [RV] using h
  | .bl _, _, h => by simpa [RV] using h
  | .int _, _, h => by simpa [RV] using h
  | .str _, _, h => by simpa [RV] using h
  | .tup xs, _, h => by
    simp only [RV] at h ⊢
    obtain ⟨a, vs, e, f, h1, h2⟩ := h
    obtain ⟨h1, f⟩ := x.by_ _ _ h1 f
    exact ⟨a, vs, e, f, h1, RVs.mo x h2⟩
  | .lst xs, _, h => by
    simp only [RV] at h ⊢
    obtain ⟨a, vs, e, f, h1, h2⟩ := h
    obtain ⟨h1, f⟩ := x.by_ _ _ h1 f
    exact ⟨a, vs, e, f, h1, RVs.mo x h2⟩
  | .dct t kvs, _, h => by
    simp only [RV] at h ⊢
    obtain ⟨a, e, f, h⟩ := h
    rcases h with ⟨ht, ks, h1, h2⟩ | ⟨ht, ks, h1, h2⟩
    · obtain ⟨u, hu⟩ := rd_some h1
      exact ⟨a, e, (x.kp a u hu f).2, .inl ⟨ht, ks, Kp.rd h1 fun u e => (x.kp a u e f).1, RK.mo x h2⟩⟩
    · obtain ⟨h1, f⟩ := x.by_ _ _ h1 f
      exact ⟨a, e, f, .inr ⟨ht, ks, h1, RN.mo x h2⟩⟩
  | .ins c fs, _, h => by
    simp only [RV] at h ⊢
    obtain ⟨a, C, dx, vs, e, f, hC, hc, h1, h2⟩ := h
    obtain ⟨h1, f⟩ := x.by_ _ _ h1 f
    exact ⟨a, C, dx, vs, e, f, hC, hc, h1, RF.mo x h2⟩
  | .ref n, _, h => by
    simp only [RV] at h ⊢
    obtain ⟨a, e, h⟩ := h
    exact ⟨a, e, x.get _ _ h⟩
  | .scr ns, _, h => by
    simp only [RV] at h ⊢
    obtain ⟨a, e, h⟩ := h
    refine ⟨a, e, h.imp (fun ⟨o, f, z⟩ => ?_) id⟩
    obtain ⟨z, f⟩ := x.by_ _ _ z f
    exact ⟨o, f, z⟩
  | .exv c fs, _, h => by
    simp only [RV] at h ⊢
    obtain ⟨a, dd, xs, e, e2, f, h1, h2⟩ := h
    obtain ⟨h1, f⟩ := x.by_ _ _ h1 f
    exact ⟨a, dd, xs, e, e2, f, h1, RX.mo x h2⟩
theorem RVs.mo (x : Mo M H M' H') : ∀ {d : List D} {v : List V}, RVs T M H d v → RVs T M' H' d v
  | [], _, h => by simpa [RVs] using h
  | d :: ds, _, h => by
    simp only [RVs] at h ⊢
    obtain ⟨v, ws, e, h1, h2⟩ := h
    exact ⟨v, ws, e, RV.mo x h1, RVs.mo x h2⟩
theorem RK.mo (x : Mo M H M' H') : ∀ {d : List (D × D)} {v : List (Key × V)}, RK T M H d v → RK T M' H' d v
  | [], _, h => by simpa [RK] using h
  | (k, d) :: ds, _, h => by
    simp only [RK] at h ⊢
    obtain ⟨q, v, ws, e, e2, h1, h2⟩ := h
    exact ⟨q, v, ws, e, e2, RV.mo x h1, RK.mo x h2⟩
theorem RN.mo (x : Mo M H M' H') : ∀ {d : List (D × D)} {v : List (NestedKey × Addr × V)}, RN T M H d v → RN T M' H' d v
  | [], _, h => by simpa [RN] using h
  | (k, d) :: ds, _, h => by
    simp only [RN] at h ⊢
    obtain ⟨q, b, v, ws, e, e2, e3, h0, h1, h2⟩ := h
    exact ⟨q, b, v, ws, e, e2, e3, RV.mo x h0, RV.mo x h1, RN.mo x h2⟩
theorem RF.mo (x : Mo M H M' H') {C : Addr} : ∀ {d : List (Nat × D)} {v : List (Str × V)}, RF T M H C d v → RF T M' H' C d v
  | [], _, h => by simpa [RF] using h
  | (k, d) :: ds, _, h => by
    simp only [RF] at h ⊢
    obtain ⟨n, v, ws, e, e2, e3, h1, h2⟩ := h
    exact ⟨n, v, ws, e, e2, e3, RV.mo x h1, RF.mo x h2⟩
theorem RX.mo (x : Mo M H M' H') : ∀ {d : List (Nat × D)} {v : List (Str × V)}, RX T M H d v → RX T M' H' d v
  | [], _, h => by simpa [RX] using h
  | (k, d) :: ds, _, h => by
    simp only [RX] at h ⊢
    obtain ⟨n, v, ws, e, e2, h1, h2⟩ := h
    exact ⟨n, v, ws, e, e2, RV.mo x h1, RX.mo x h2⟩
end
theorem RV.ex (x : Ex M H M' H') {d : D} {v : V} (h : RV T M H d v) : RV T M' H' d v := h.mo x.mo
theorem RVs.ex (x : Ex M H M' H') {d : List D} {v : List V} (h : RVs T M H d v) : RVs T M' H' d v := h.mo x.mo
theorem EOk.mo {ρ : DEnv} {σ : L2.St} (x : Mo M H M' H') (h : EOk T M H ρ σ) : EOk T M' H' ρ σ :=
  ⟨h.len, fun i d e => let ⟨v, e1, r⟩ := h.val i d e; ⟨v, e1, r.mo x⟩⟩
theorem EOk.ex {ρ : DEnv} {σ : L2.St} (x : Ex M H M' H') (h : EOk T M H ρ σ) : EOk T M' H' ρ σ := h.mo x.mo
theorem paired_imp {α β : Type} {F G : α → β → Prop} : ∀ {l₁ : List α} {l₂ : List β}, Paired F l₁ l₂ → (∀ a b, F a b → G a b) → Paired G l₁ l₂
  | _, _, .nil, _ => .nil
  | _, _, .cons r t, f => .cons (f _ _ r) (paired_imp t f)
/-- an object's data where its own cell and the data stand -/
theorem RO.mo {o : DObj} (h : RO T M H o a) (x : Mo M H M' H') (ha : ∀ u, H a = some u → H' a = some u) : RO T M' H' o a := by
  cases o with
  | lst xs => obtain ⟨vs, e, r⟩ := h; exact ⟨vs, ha _ e, r.mo x⟩
  | ins c fs =>
    obtain ⟨C, dx, vs, e1, e2, e3, r⟩ := h
    exact ⟨C, dx, vs, e1, e2, ha _ e3, r.mo x⟩
  | dct t kvs =>
    rcases h with ⟨ht, ks, e, r⟩ | ⟨ht, ks, e, r⟩
    · exact .inl ⟨ht, ks, ha _ e, r.mo x⟩
    · exact .inr ⟨ht, ks, ha _ e, r.mo x⟩
  | dead => obtain ⟨u, e, r⟩ := h; exact ⟨u, ha _ e, r⟩
theorem RVs.len : ∀ {d : List D} {v : List V}, RVs T M H d v → v.length = d.length
  | [], _, h => by simp only [RVs] at h; simp [h]
  | d :: ds, _, h => by
    simp only [RVs] at h
    obtain ⟨v, ws, rfl, h1, h2⟩ := h
    simp [RVs.len h2]
theorem RK.len : ∀ {d : List (D × D)} {v : List (Key × V)}, RK T M H d v → v.length = d.length
  | [], _, h => by simp only [RK] at h; simp [h]
  | (k, d) :: ds, _, h => by
    simp only [RK] at h
    obtain ⟨_, v, ws, rfl, _, h1, h2⟩ := h
    simp [RK.len h2]
theorem RN.len : ∀ {d : List (D × D)} {v : List (NestedKey × Addr × V)}, RN T M H d v → v.length = d.length
  | [], _, h => by simp only [RN] at h; simp [h]
  | (k, d) :: ds, _, h => by
    simp only [RN] at h
    obtain ⟨_, _, v, ws, rfl, _, _, _, h1, h2⟩ := h
    simp [RN.len h2]
theorem RF.len {C : Addr} : ∀ {d : List (Nat × D)} {v : List (Str × V)}, RF T M H C d v → v.length = d.length
  | [], _, h => by simp only [RF] at h; simp [h]
  | (k, d) :: ds, _, h => by
    simp only [RF] at h
    obtain ⟨_, v, ws, rfl, _, _, h1, h2⟩ := h
    simp [RF.len h2]
theorem RVs.get : ∀ {d : List D} {v : List V} {i : Nat} {x : D}, RVs T M H d v → d[i]? = some x → ∃ y, v[i]? = some y ∧ RV T M H x y
  | [], _, _, _, h, e => by simp at e
  | d :: ds, _, 0, x, h, e => by
    simp only [RVs] at h
    obtain ⟨v, ws, rfl, h1, h2⟩ := h
    simp at e; subst e
    exact ⟨v, rfl, h1⟩
  | d :: ds, _, i + 1, x, h, e => by
    simp only [RVs] at h
    obtain ⟨v, ws, rfl, h1, h2⟩ := h
    obtain ⟨y, e1, r⟩ := RVs.get (i := i) (x := x) h2 (by simpa using e)
    exact ⟨y, by simpa using e1, r⟩
theorem RVs.getV : ∀ {d : List D} {v : List V} {i : Nat} {y : V}, RVs T M H d v → v[i]? = some y → ∃ x, d[i]? = some x ∧ RV T M H x y := fun {d v i y} h e => by
  have hl := h.len
  have hi := (List.getElem?_eq_some_iff.mp e).1
  obtain ⟨z, e1, r⟩ := h.get (List.getElem?_eq_getElem (by omega : i < d.length))
  rw [e] at e1; cases e1
  exact ⟨_, List.getElem?_eq_getElem (by omega), r⟩
theorem RVs.app : ∀ {d e : List D} {v u : List V}, RVs T M H d v → RVs T M H e u → RVs T M H (d ++ e) (v ++ u)
  | [], _, _, _, h, k => by simp only [RVs] at h; subst h; exact k
  | d :: ds, _, _, _, h, k => by
    simp only [RVs] at h
    obtain ⟨v, ws, rfl, h1, h2⟩ := h
    show RVs T M H (d :: (ds ++ _)) _
    simp only [RVs]
    exact ⟨v, _, rfl, h1, RVs.app h2 k⟩
theorem RVs.one {d : D} {v : V} (h : RV T M H d v) : RVs T M H [d] [v] := by simp only [RVs]; exact ⟨v, [], rfl, h, rfl⟩
theorem RVs.cons {d : D} {v : V} {ds : List D} {vs : List V} (h : RV T M H d v) (k : RVs T M H ds vs) : RVs T M H (d :: ds) (v :: vs) := by simp only [RVs]; exact ⟨v, vs, rfl, h, k⟩
theorem RVs.set : ∀ {d : List D} {v : List V} {x : D} {y : V} (i : Nat), RVs T M H d v → RV T M H x y → RVs T M H (d.set i x) (v.set i y)
  | [], _, _, _, _, h, k => by simp only [RVs] at h; subst h; simp [RVs]
  | d :: ds, _, _, _, 0, h, k => by
    simp only [RVs] at h
    obtain ⟨v, ws, rfl, h1, h2⟩ := h
    simp only [List.set_cons_zero, RVs]
    exact ⟨_, _, rfl, k, h2⟩
  | d :: ds, _, _, _, i + 1, h, k => by
    simp only [RVs] at h
    obtain ⟨v, ws, rfl, h1, h2⟩ := h
    simp only [List.set_cons_succ, RVs]
    exact ⟨_, _, rfl, h1, RVs.set i h2 k⟩
theorem RVs.take : ∀ {d : List D} {v : List V} (n : Nat), RVs T M H d v → RVs T M H (d.take n) (v.take n)
  | _, _, 0, _ => by simp [RVs]
  | [], _, _ + 1, h => by simp only [RVs] at h; subst h; simp [RVs]
  | d :: ds, _, n + 1, h => by
    simp only [RVs] at h
    obtain ⟨v, ws, rfl, h1, h2⟩ := h
    simp only [List.take_succ_cons, RVs]
    exact ⟨_, _, rfl, h1, RVs.take n h2⟩
theorem RVs.drop : ∀ {d : List D} {v : List V} (n : Nat), RVs T M H d v → RVs T M H (d.drop n) (v.drop n)
  | _, _, 0, h => by simpa using h
  | [], _, _ + 1, h => by simp only [RVs] at h; subst h; simp [RVs]
  | d :: ds, _, n + 1, h => by
    simp only [RVs] at h
    obtain ⟨v, ws, rfl, h1, h2⟩ := h
    simpa using RVs.drop n h2
theorem RVs.rev : ∀ {d : List D} {v : List V}, RVs T M H d v → RVs T M H d.reverse v.reverse
  | [], _, h => by simp only [RVs] at h; subst h; simp [RVs]
  | d :: ds, _, h => by
    simp only [RVs] at h
    obtain ⟨v, ws, rfl, h1, h2⟩ := h
    rw [List.reverse_cons, List.reverse_cons]
    exact h2.rev.app (RVs.one h1)

/-! ### the store's moves -/
/-- what stands at an address of the store -/
theorem RO.some {d : DObj} (r : RO T M H d a) : ∃ u, H a = some u ∧ (∀ xs, u ≠ .tup xs) ∧ ∀ o w, u ≠ .frz o w := by
  cases d with
  | lst xs => obtain ⟨vs, e, _⟩ := r; exact ⟨_, e, by simp, by simp⟩
  | ins c fs => obtain ⟨C, dx, vs, _, _, e, _⟩ := r; exact ⟨_, e, by simp, by simp⟩
  | dct t kvs => rcases r with ⟨_, ks, e, _⟩ | ⟨_, ks, e, _⟩ <;> exact ⟨_, e, by simp, by simp⟩
  | dead => exact r
theorem SOk.at (s : SOk T M H st) {n : Nat} (h : M.l[n]? = some a) : ∃ o, st[n]? = some o ∧ RO T M H o a := by
  have hn := (List.getElem?_eq_some_iff.mp h).1
  have e : st[n]? = some (st[n]'(by rw [← s.len]; exact hn)) := List.getElem?_eq_getElem _
  exact ⟨_, e, s.ro n _ a e h⟩
theorem SOk.mem (s : SOk T M H st) (h : a ∈ M.l) : ∃ u, H a = some u ∧ (∀ xs, u ≠ .tup xs) ∧ ∀ o w, u ≠ .frz o w := by
  obtain ⟨n, hn⟩ := List.getElem?_of_mem h
  obtain ⟨o, _, r⟩ := s.at hn
  exact r.some
theorem SOk.nl (s : SOk T M H st) (hp : H a = none) : a ∉ M.l := fun h => by
  obtain ⟨u, e, _⟩ := s.mem h
  rw [hp] at e; cases e
theorem SOk.there (s : SOk T M H st) {n : Nat} {o : DObj} (h : st[n]? = some o) : ∃ a, M.l[n]? = some a ∧ RO T M H o a := by
  have hn := (List.getElem?_eq_some_iff.mp h).1
  have e : M.l[n]? = some (M.l[n]'(by rw [s.len]; exact hn)) := List.getElem?_eq_getElem _
  exact ⟨_, e, s.ro n o _ h e⟩
theorem SOk.fresh (s : SOk T M H st) (hp : H a = none) : Fr M a := ⟨s.nl hp, fun h => by
    obtain ⟨o, e⟩ := s.bld a h
    rw [hp] at e; cases e⟩
/-- a new untracked thing (a tuple, ..) -/
theorem ex_new {o : HO} (hp : H a = none) : Ex M H M (upd H a o) :=
  .of ⟨[], by simp⟩ rfl (fun b u h _ => by rw [upd_ne (ne_of_none h hp)]; exact h) fun b h n => absurd h n
theorem upd_some {o : HO} {b : Addr} (h : ∃ u, H b = some u) : ∃ u, upd H a o b = some u := by
  by_cases z : b = a
  · subst z; exact ⟨_, upd_same⟩
  · obtain ⟨u, h⟩ := h
    exact ⟨u, by rw [upd_ne z]; exact h⟩
theorem sok_new {o : HO} (s : SOk T M H st) (hp : H a = none) : SOk T M (upd H a o) st :=
  ⟨s.len, fun i ob b e1 e2 => (s.ro i ob b e1 e2).mo (ex_new hp).mo fun u z => by rw [upd_ne (ne_of_none z hp)]; exact z, s.inj, s.dis, fun b hb => upd_some (s.bld b hb)⟩
/-- a new object enters the store -/
theorem ex_alloc {o : HO} (s : SOk T M H st) (hp : H a = none) : Ex M H (M.add a) (upd H a o) := by
  refine .of ⟨[a], rfl⟩ rfl (fun b u h _ => by rw [upd_ne (ne_of_none h hp)]; exact h) fun b h n => ?_
  rcases List.mem_append.mp h with z | z
  · exact absurd z n
  · rw [List.mem_singleton.mp z]; exact ⟨hp, (s.fresh hp).2⟩
theorem get_snoc {α : Type} {xs : List α} {y z : α} {i : Nat} (h : (xs ++ [y])[i]? = some z) : xs[i]? = some z ∨ (i = xs.length ∧ z = y) := by
  by_cases hi : i < xs.length
  · rw [List.getElem?_append_left hi] at h; exact .inl h
  · rw [List.getElem?_append_right (by omega)] at h
    have : i - xs.length = 0 := by
      cases e : i - xs.length with
      | zero => rfl
      | succ n => rw [e] at h; simp at h
    rw [this] at h
    simp at h
    exact .inr ⟨by omega, h.symm⟩
theorem inj_snoc {l : List Addr} (h : ∀ (i j : Nat) (b : Addr), l[i]? = some b → l[j]? = some b → i = j) (hn : a ∉ l) : ∀ (i j : Nat) (b : Addr), (l ++ [a])[i]? = some b → (l ++ [a])[j]? = some b → i = j := fun i j b e1 e2 => by
  rcases get_snoc e1 with f1 | ⟨i1, z1⟩ <;> rcases get_snoc e2 with f2 | ⟨i2, z2⟩
  · exact h i j b f1 f2
  · rw [z2] at f1; exact absurd (List.mem_of_getElem? f1) hn
  · rw [z1] at f2; exact absurd (List.mem_of_getElem? f2) hn
  · rw [i1, i2]
/-- an object at an address that was neither, or was being built, enters the store -/
theorem sok_snoc {d : DObj} {x : List Addr} (s : SOk T M H st) (x0 : Mo M H ⟨M.l ++ [a], x⟩ H') (k : ∀ b u, b ∈ M.l → H b = some u → H' b = some u) (hn : a ∉ M.l) (hx : ∀ b ∈ x, b ∈ M.x ∧ b ≠ a) (hb : ∀ b ∈ x, ∃ o, H' b = some o)
    (r : RO T ⟨M.l ++ [a], x⟩ H' d a) : SOk T ⟨M.l ++ [a], x⟩ H' (st ++ [d]) := by
  have hl := s.len
  refine ⟨by simp [hl], fun i ob b e1 e2 => ?_, inj_snoc s.inj hn, fun b h1 h2 => ?_, hb⟩
  · rcases get_snoc e1 with e1 | ⟨rfl, rfl⟩
    · have hi := (List.getElem?_eq_some_iff.mp e1).1
      have e2 : (M.l ++ [a])[i]? = some b := e2
      rw [List.getElem?_append_left (by omega)] at e2
      exact (s.ro i ob b e1 e2).mo x0 fun u z => k b u (List.mem_of_getElem? e2) z
    · have e2 : (M.l ++ [a])[st.length]? = some b := e2
      rw [← hl] at e2
      simp at e2
      subst e2
      exact r
  · obtain ⟨h3, h4⟩ := hx b h2
    rcases List.mem_append.mp h1 with z | z
    · exact s.dis b z h3
    · exact h4 (List.mem_singleton.mp z)
theorem sok_alloc {o : HO} {d : DObj} (s : SOk T M H st) (hp : H a = none) (r : RO T (M.add a) (upd H a o) d a) : SOk T (M.add a) (upd H a o) (st ++ [d]) :=
  sok_snoc (x := M.x) s (ex_alloc s hp).mo (fun b u _ z => by rw [upd_ne (ne_of_none z hp)]; exact z) (s.nl hp) (fun b hb => ⟨hb, fun z => (s.fresh hp).2 (z ▸ hb)⟩) (fun b hb => upd_some (s.bld b hb)) r
/-- an object of the store is written -/
theorem ex_write {o : HO} (h : a ∈ M.l) : Ex M H M (upd H a o) := by
  refine .of ⟨[], by simp⟩ rfl (fun b w z hb => ?_) fun b h n => absurd h n
  rw [upd_ne]; exact z
  rintro rfl; exact hb h
theorem sok_write {n : Nat} {d' : DObj} {o : HO} (s : SOk T M H st) (h2 : M.l[n]? = some a) (r : RO T M (upd H a o) d' a) : SOk T M (upd H a o) (st.set n d') := by
  have hm := List.mem_of_getElem? h2
  have hn : n < st.length := by rw [← s.len]; exact (List.getElem?_eq_some_iff.mp h2).1
  refine ⟨by rw [List.length_set]; exact s.len, fun i ob b e1 e2 => ?_, s.inj, s.dis, fun b hb => upd_some (s.bld b hb)⟩
  by_cases hi : i = n
  · subst hi
    rw [h2] at e2; cases e2
    rw [List.getElem?_set_self hn] at e1; cases e1
    exact r
  · rw [List.getElem?_set_ne (Ne.symm hi)] at e1
    refine (s.ro i ob b e1 e2).mo (ex_write hm).mo fun w z => ?_
    rw [upd_ne]; exact z
    rintro rfl; exact hi (s.inj i n _ e2 h2)
theorem upd_tup_ok {xs : List D} {vs : List V} {p : Addr} (s : SOk T M H st) (r : RVs T M H xs vs) (hp : H p = none) :
    SOk T M (upd H p (.tup vs)) st ∧ Ex M H M (upd H p (.tup vs)) ∧ RV T M (upd H p (.tup vs)) (.tup xs) (.ref p) :=
  ⟨sok_new s hp, ex_new hp, by simp only [RV]; exact ⟨p, vs, rfl, s.fresh hp, upd_same, r.ex (ex_new hp)⟩⟩
theorem upd_lst_ok {xs : List D} {vs : List V} {p : Addr} (s : SOk T M H st) (r : RVs T M H xs vs) (hp : H p = none) :
    SOk T M (upd H p (.lst vs)) st ∧ Ex M H M (upd H p (.lst vs)) ∧ RV T M (upd H p (.lst vs)) (.lst xs) (.ref p) :=
  ⟨sok_new s hp, ex_new hp, by simp only [RV]; exact ⟨p, vs, rfl, s.fresh hp, upd_same, r.ex (ex_new hp)⟩⟩
theorem new_ok {o : HO} {d : DObj} {p : Addr} (s : SOk T M H st) (hp : H p = none) (r : RO T (M.add p) (upd H p o) d p) :
    SOk T (M.add p) (upd H p o) (st ++ [d]) ∧ Ex M H (M.add p) (upd H p o) ∧ RV T (M.add p) (upd H p o) (.ref st.length) (.ref p) :=
  ⟨sok_alloc s hp r, ex_alloc s hp, by simp only [RV]; exact ⟨p, rfl, by rw [← s.len]; simp⟩⟩
theorem new_lst_ok {xs : List D} {vs : List V} {p : Addr} (s : SOk T M H st) (r : RVs T M H xs vs) (hp : H p = none) :
    SOk T (M.add p) (upd H p (.lst vs)) (st ++ [.lst xs]) ∧ Ex M H (M.add p) (upd H p (.lst vs)) ∧ RV T (M.add p) (upd H p (.lst vs)) (.ref st.length) (.ref p) :=
  new_ok s hp ⟨vs, upd_same, r.ex (ex_alloc s hp)⟩
end

/-! ### what stood behind a mark of the store, told by value -/
mutual
def rs (lo : Nat) (lk : Nat → Option D) : D → Option D
  | .tup xs => (rss lo lk xs).map .tup
  | .lst xs => (rss lo lk xs).map .lst
  | .dct t kvs => (rsk lo lk kvs).map (.dct t)
  | .ins c fs => (rsf lo lk fs).map (.ins c)
  | .exv c fs => (rsf lo lk fs).map (.exv c)
  | .ref n => if n < lo then some (.ref n) else lk n
  | .non => some .non
  | .bl b => some (.bl b)
  | .int i => some (.int i)
  | .str s => some (.str s)
  | .scr ns => some (.scr ns)
def rss (lo : Nat) (lk : Nat → Option D) : List D → Option (List D)
  | [] => some []
  | x :: xs => (rs lo lk x).bind fun a => (rss lo lk xs).map fun b => a :: b
def rsk (lo : Nat) (lk : Nat → Option D) : List (D × D) → Option (List (D × D))
  | [] => some []
  | (k, x) :: xs => (rs lo lk k).bind fun q => if q = k then (rs lo lk x).bind fun a => (rsk lo lk xs).map fun b => (k, a) :: b else none
def rsf (lo : Nat) (lk : Nat → Option D) : List (Nat × D) → Option (List (Nat × D))
  | [] => some []
  | (k, x) :: xs => (rs lo lk x).bind fun a => (rsf lo lk xs).map fun b => (k, a) :: b
end
def rlk (lo : Nat) (st : DSto) (lk : Nat → Option D) (n : Nat) : Option D := match st[n]? with
  | some (.lst xs) => (rss lo lk xs).map .lst
  | some (.ins c fs) => (rsf lo lk fs).map (.ins c)
  | some (.dct t kvs) => (rsk lo lk kvs).map (.dct t)
  | _ => none
def fzK (lo : Nat) (st : DSto) : Nat → Option D := rlk lo st (rlk lo st (rlk lo st (rlk lo st fun _ => none)))
/-- d with all that stands from lo on told by value -/
def fzD (lo : Nat) (st : DSto) (d : D) : Option D := rs lo (fzK lo st) d
def fzO (lo : Nat) (st : DSto) : DObj → Option DObj
  | .lst xs => (rss lo (fzK lo st) xs).map .lst
  | .ins c fs => (rsf lo (fzK lo st) fs).map (.ins c)
  | .dct t kvs => (rsk lo (fzK lo st) kvs).map (.dct t)
  | .dead => some .dead
section
variable {T : Tb} {M M' : Mu} {H : Hp} {st : DSto} {lo : Nat} {lk : Nat → Option D}
/-- M' without what stands from lo on -/
structure Cutd (lo : Nat) (M' M : Mu) : Prop where
  l : M.l = M'.l.take lo
  x : M.x = M'.x
theorem Cutd.fr (c : Cutd lo M' M) {a : Addr} (h : Fr M' a) : Fr M a := ⟨fun z => h.1 (by rw [c.l] at z; exact List.mem_of_mem_take z), fun z => h.2 (by rw [← c.x]; exact z)⟩
def LkV (T : Tb) (M' M : Mu) (H : Hp) (lk : Nat → Option D) (lo : Nat) : Prop := ∀ n d a, lo ≤ n → lk n = some d → M'.l[n]? = some a → RV T M H d (.ref a)
mutual
theorem rs_ok (c : Cutd lo M' M) (h : LkV T M' M H lk lo) : ∀ {d e : D} {v : V}, rs lo lk d = some e → RV T M' H d v → RV T M H e v
  | .non, e, v, q, r => by simp only [rs, Option.some.injEq] at q; subst q; simpa [RV] using r
  | .bl b, e, v, q, r => by simp only [rs, Option.some.injEq] at q; subst q; simpa [RV] using r
  | .int b, e, v, q, r => by simp only [rs, Option.some.injEq] at q; subst q; simpa [RV] using r
  | .str b, e, v, q, r => by simp only [rs, Option.some.injEq] at q; subst q; simpa [RV] using r
  | .scr b, e, v, q, r => by
    simp only [rs, Option.some.injEq] at q; subst q
    simp only [RV] at r ⊢
    obtain ⟨a, e, r⟩ := r
    exact ⟨a, e, r.imp (fun ⟨o, f, z⟩ => ⟨o, c.fr f, z⟩) id⟩
  | .tup xs, e, v, q, r => by
    simp only [rs, Option.map_eq_some_iff] at q
    obtain ⟨ys, q, rfl⟩ := q
    simp only [RV] at r ⊢
    obtain ⟨a, vs, e, f, h1, h2⟩ := r
    exact ⟨a, vs, e, c.fr f, h1, rss_ok c h q h2⟩
  | .lst xs, e, v, q, r => by
    simp only [rs, Option.map_eq_some_iff] at q
    obtain ⟨ys, q, rfl⟩ := q
    simp only [RV] at r ⊢
    obtain ⟨a, vs, e, f, h1, h2⟩ := r
    exact ⟨a, vs, e, c.fr f, h1, rss_ok c h q h2⟩
  | .dct t xs, e, v, q, r => by
    simp only [rs, Option.map_eq_some_iff] at q
    obtain ⟨ys, q, rfl⟩ := q
    simp only [RV] at r ⊢
    obtain ⟨a, e, f, ⟨ht, ks, h1, h2⟩ | ⟨ht, ks, h1, h2⟩⟩ := r
    · exact ⟨a, e, c.fr f, .inl ⟨ht, ks, h1, rsk_ok c h q h2⟩⟩
    · exact ⟨a, e, c.fr f, .inr ⟨ht, ks, h1, rsn_ok c h q h2⟩⟩
  | .ins k xs, e, v, q, r => by
    simp only [rs, Option.map_eq_some_iff] at q
    obtain ⟨ys, q, rfl⟩ := q
    simp only [RV] at r ⊢
    obtain ⟨a, C, dx, vs, e, f, hC, hc, h1, h2⟩ := r
    exact ⟨a, C, dx, vs, e, c.fr f, hC, hc, h1, rsf_ok c h q h2⟩
  | .exv k xs, e, v, q, r => by
    simp only [rs, Option.map_eq_some_iff] at q
    obtain ⟨ys, q, rfl⟩ := q
    simp only [RV] at r ⊢
    obtain ⟨a, dd, vs, e, e2, f, h1, h2⟩ := r
    exact ⟨a, dd, vs, e, e2, c.fr f, h1, rsx_ok c h q h2⟩
  | .ref n, e, v, q, r => by
    simp only [RV] at r
    obtain ⟨a, rfl, e1⟩ := r
    unfold rs at q
    by_cases hn : n < lo
    · rw [if_pos hn] at q
      cases q
      simp only [RV]
      exact ⟨a, rfl, by rw [c.l, List.getElem?_take_of_lt hn]; exact e1⟩
    · rw [if_neg hn] at q
      exact h n e a (by omega) q e1
theorem rss_ok (c : Cutd lo M' M) (h : LkV T M' M H lk lo) : ∀ {d e : List D} {v : List V}, rss lo lk d = some e → RVs T M' H d v → RVs T M H e v
  | [], e, v, q, r => by simp only [rss, Option.some.injEq] at q; subst q; simpa [RVs] using r
  | x :: xs, e, v, q, r => by
    simp only [rss] at q
    obtain ⟨a, q1, q⟩ := Option.bind_eq_some_iff.mp q
    obtain ⟨b, q2, rfl⟩ := Option.map_eq_some_iff.mp q
    simp only [RVs] at r ⊢
    obtain ⟨v, ws, e, h1, h2⟩ := r
    exact ⟨v, ws, e, rs_ok c h q1 h1, rss_ok c h q2 h2⟩
theorem rsk_ok (c : Cutd lo M' M) (h : LkV T M' M H lk lo) : ∀ {d e : List (D × D)} {v : List (Key × V)}, rsk lo lk d = some e → RK T M' H d v → RK T M H e v
  | [], e, v, q, r => by simp only [rsk, Option.some.injEq] at q; subst q; simpa [RK] using r
  | (k, x) :: xs, e, v, q, r => by
    simp only [rsk] at q
    obtain ⟨k', q0, q⟩ := Option.bind_eq_some_iff.mp q
    by_cases hk : k' = k
    · rw [if_pos hk] at q
      obtain ⟨a, q1, q⟩ := Option.bind_eq_some_iff.mp q
      obtain ⟨b, q2, rfl⟩ := Option.map_eq_some_iff.mp q
      simp only [RK] at r ⊢
      obtain ⟨kk, v, ws, e, e2, h1, h2⟩ := r
      exact ⟨kk, v, ws, e, e2, rs_ok c h q1 h1, rsk_ok c h q2 h2⟩
    · rw [if_neg hk] at q; cases q
theorem rsn_ok (c : Cutd lo M' M) (h : LkV T M' M H lk lo) : ∀ {d e : List (D × D)} {v : List (NestedKey × Addr × V)}, rsk lo lk d = some e → RN T M' H d v → RN T M H e v
  | [], e, v, q, r => by simp only [rsk, Option.some.injEq] at q; subst q; simpa [RN] using r
  | (k, x) :: xs, e, v, q, r => by
    simp only [rsk] at q
    obtain ⟨k', q0, q⟩ := Option.bind_eq_some_iff.mp q
    by_cases hk : k' = k
    · rw [if_pos hk] at q
      subst hk
      obtain ⟨a, q1, q⟩ := Option.bind_eq_some_iff.mp q
      obtain ⟨b, q2, rfl⟩ := Option.map_eq_some_iff.mp q
      simp only [RN] at r ⊢
      obtain ⟨kk, b, v, ws, e, e2, e3, h0, h1, h2⟩ := r
      exact ⟨kk, b, v, ws, e, e2, e3, rs_ok c h q0 h0, rs_ok c h q1 h1, rsn_ok c h q2 h2⟩
    · rw [if_neg hk] at q; cases q
theorem rsf_ok (c : Cutd lo M' M) (h : LkV T M' M H lk lo) {C : Addr} : ∀ {d e : List (Nat × D)} {v : List (Str × V)}, rsf lo lk d = some e → RF T M' H C d v → RF T M H C e v
  | [], e, v, q, r => by simp only [rsf, Option.some.injEq] at q; subst q; simpa [RF] using r
  | (k, x) :: xs, e, v, q, r => by
    simp only [rsf] at q
    obtain ⟨a, q1, q⟩ := Option.bind_eq_some_iff.mp q
    obtain ⟨b, q2, rfl⟩ := Option.map_eq_some_iff.mp q
    simp only [RF] at r ⊢
    obtain ⟨kk, v, ws, e, e2, e3, h1, h2⟩ := r
    exact ⟨kk, v, ws, e, e2, e3, rs_ok c h q1 h1, rsf_ok c h q2 h2⟩
theorem rsx_ok (c : Cutd lo M' M) (h : LkV T M' M H lk lo) : ∀ {d e : List (Nat × D)} {v : List (Str × V)}, rsf lo lk d = some e → RX T M' H d v → RX T M H e v
  | [], e, v, q, r => by simp only [rsf, Option.some.injEq] at q; subst q; simpa [RX] using r
  | (k, x) :: xs, e, v, q, r => by
    simp only [rsf] at q
    obtain ⟨a, q1, q⟩ := Option.bind_eq_some_iff.mp q
    obtain ⟨b, q2, rfl⟩ := Option.map_eq_some_iff.mp q
    simp only [RX] at r ⊢
    obtain ⟨kk, v, ws, e, e2, h1, h2⟩ := r
    exact ⟨kk, v, ws, e, e2, rs_ok c h q1 h1, rsx_ok c h q2 h2⟩
end
/-- an object from lo on is in the cut store no more -/
theorem SOk.cut_fr (s : SOk T M' H st) (c : Cutd lo M' M) {n : Nat} {a : Addr} (hn : lo ≤ n) (h : M'.l[n]? = some a) : Fr M a := by
  refine ⟨fun z => ?_, fun z => s.dis a (List.mem_of_getElem? h) (by rw [← c.x]; exact z)⟩
  rw [c.l] at z
  obtain ⟨i, hi⟩ := List.getElem?_of_mem z
  have hl : i < lo := by
    have := (List.getElem?_eq_some_iff.mp hi).1
    rw [List.length_take] at this
    omega
  rw [List.getElem?_take_of_lt hl] at hi
  have := s.inj i n a hi h
  omega
theorem rlk_ok (s : SOk T M' H st) (c : Cutd lo M' M) (h : LkV T M' M H lk lo) : LkV T M' M H (rlk lo st lk) lo := fun n d a hn e e1 => by
  unfold rlk at e
  have f := s.cut_fr c hn e1
  cases q : st[n]? with
  | none => rw [q] at e; cases e
  | some o =>
    rw [q] at e
    have ro := s.ro n o a q e1
    cases o with
    | lst xs =>
      obtain ⟨ys, e2, rfl⟩ := Option.map_eq_some_iff.mp e
      obtain ⟨vs, e3, r⟩ := ro
      simp only [RV]
      exact ⟨a, vs, rfl, f, e3, rss_ok c h e2 r⟩
    | ins k xs =>
      obtain ⟨ys, e2, rfl⟩ := Option.map_eq_some_iff.mp e
      obtain ⟨C, dx, vs, hC, hc, e3, r⟩ := ro
      simp only [RV]
      exact ⟨a, C, dx, vs, rfl, f, hC, hc, e3, rsf_ok c h e2 r⟩
    | dct t xs =>
      obtain ⟨ys, e2, rfl⟩ := Option.map_eq_some_iff.mp e
      simp only [RV]
      rcases ro with ⟨ht, ks, e3, r⟩ | ⟨ht, ks, e3, r⟩
      · exact ⟨a, rfl, f, .inl ⟨ht, ks, .inl e3, rsk_ok c h e2 r⟩⟩
      · exact ⟨a, rfl, f, .inr ⟨ht, ks, e3, rsn_ok c h e2 r⟩⟩
    | dead => cases e
theorem fzK_ok (s : SOk T M' H st) (c : Cutd lo M' M) : LkV T M' M H (fzK lo st) lo :=
  rlk_ok s c (rlk_ok s c (rlk_ok s c (rlk_ok s c fun _ _ _ _ e => by cases e)))
theorem fzD_ok (s : SOk T M' H st) (c : Cutd lo M' M) {d e : D} {v : V} (q : fzD lo st d = some e) (r : RV T M' H d v) : RV T M H e v := rs_ok c (fzK_ok s c) q r
theorem fzO_ok (s : SOk T M' H st) (c : Cutd lo M' M) {d e : DObj} {a : Addr} (q : fzO lo st d = some e) (r : RO T M' H d a) : RO T M H e a := by
  cases d with
  | lst xs =>
    obtain ⟨ys, e2, rfl⟩ := Option.map_eq_some_iff.mp q
    obtain ⟨vs, e3, r⟩ := r
    exact ⟨vs, e3, rss_ok c (fzK_ok s c) e2 r⟩
  | ins k xs =>
    obtain ⟨ys, e2, rfl⟩ := Option.map_eq_some_iff.mp q
    obtain ⟨C, dx, vs, hC, hc, e3, r⟩ := r
    exact ⟨C, dx, vs, hC, hc, e3, rsf_ok c (fzK_ok s c) e2 r⟩
  | dct t xs =>
    obtain ⟨ys, e2, rfl⟩ := Option.map_eq_some_iff.mp q
    rcases r with ⟨ht, ks, e3, r⟩ | ⟨ht, ks, e3, r⟩
    · exact .inl ⟨ht, ks, e3, rsk_ok c (fzK_ok s c) e2 r⟩
    · exact .inr ⟨ht, ks, e3, rsn_ok c (fzK_ok s c) e2 r⟩
  | dead => cases q; exact r
end
/-! data that stand below a mark are left as they are -/
section
variable {T : Tb} {M M0 : Mu} {H H0 : Hp} {lo : Nat} {lk : Nat → Option D}
mutual
theorem rs_low (hl : M.l.length ≤ lo) : ∀ {d : D} {v : V}, RV T M H d v → rs lo lk d = some d
  | .non, _, _ => rfl
  | .bl _, _, _ => rfl
  | .int _, _, _ => rfl
  | .str _, _, _ => rfl
  | .scr _, _, _ => rfl
  | .tup xs, _, r => by
    simp only [RV] at r
    obtain ⟨a, vs, _, _, _, r⟩ := r
    simp only [rs, rss_low hl r, Option.map_some]
  | .lst xs, _, r => by
    simp only [RV] at r
    obtain ⟨a, vs, _, _, _, r⟩ := r
    simp only [rs, rss_low hl r, Option.map_some]
  | .dct t xs, _, r => by
    simp only [RV] at r
    obtain ⟨a, _, _, ⟨_, ks, _, r⟩ | ⟨_, ks, _, r⟩⟩ := r
    · simp only [rs, rsk_low hl r, Option.map_some]
    · simp only [rs, rsn_low hl r, Option.map_some]
  | .ins c xs, _, r => by
    simp only [RV] at r
    obtain ⟨a, C, dx, vs, _, _, _, _, _, r⟩ := r
    simp only [rs, rsf_low hl r, Option.map_some]
  | .exv c xs, _, r => by
    simp only [RV] at r
    obtain ⟨a, dx, vs, _, _, _, _, r⟩ := r
    simp only [rs, rsx_low hl r, Option.map_some]
  | .ref n, _, r => by
    simp only [RV] at r
    obtain ⟨a, _, e⟩ := r
    have := (List.getElem?_eq_some_iff.mp e).1
    unfold rs
    rw [if_pos (by omega)]
theorem rss_low (hl : M.l.length ≤ lo) : ∀ {d : List D} {v : List V}, RVs T M H d v → rss lo lk d = some d
  | [], _, _ => rfl
  | x :: xs, _, r => by
    simp only [RVs] at r
    obtain ⟨v, ws, _, r1, r2⟩ := r
    simp only [rss, rs_low hl r1, rss_low hl r2, Option.bind_some, Option.map_some]
theorem rsk_low (hl : M.l.length ≤ lo) : ∀ {d : List (D × D)} {v : List (Key × V)}, RK T M H d v → rsk lo lk d = some d
  | [], _, _ => rfl
  | (k, x) :: xs, _, r => by
    simp only [RK] at r
    obtain ⟨q, v, ws, _, rfl, r1, r2⟩ := r
    have hk : rs lo lk (keyD q) = some (keyD q) := by cases q <;> rfl
    simp only [rsk, hk, rs_low hl r1, rsk_low hl r2, Option.bind_some, Option.map_some, if_true]
theorem rsn_low (hl : M.l.length ≤ lo) : ∀ {d : List (D × D)} {v : List (NestedKey × Addr × V)}, RN T M H d v → rsk lo lk d = some d
  | [], _, _ => rfl
  | (k, x) :: xs, _, r => by
    simp only [RN] at r
    obtain ⟨q, b, v, ws, _, _, _, r0, r1, r2⟩ := r
    simp only [rsk, rs_low hl r0, rs_low hl r1, rsn_low hl r2, Option.bind_some, Option.map_some, if_true]
theorem rsf_low (hl : M.l.length ≤ lo) {C : Addr} : ∀ {d : List (Nat × D)} {v : List (Str × V)}, RF T M H C d v → rsf lo lk d = some d
  | [], _, _ => rfl
  | (k, x) :: xs, _, r => by
    simp only [RF] at r
    obtain ⟨n, v, ws, _, _, _, r1, r2⟩ := r
    simp only [rsf, rs_low hl r1, rsf_low hl r2, Option.bind_some, Option.map_some]
theorem rsx_low (hl : M.l.length ≤ lo) : ∀ {d : List (Nat × D)} {v : List (Str × V)}, RX T M H d v → rsf lo lk d = some d
  | [], _, _ => rfl
  | (k, x) :: xs, _, r => by
    simp only [RX] at r
    obtain ⟨n, v, ws, _, _, r1, r2⟩ := r
    simp only [rsf, rs_low hl r1, rsx_low hl r2, Option.bind_some, Option.map_some]
end
theorem fzO_low (hl : M.l.length ≤ lo) {st : DSto} {d : DObj} {a : Addr} (r : RO T M H d a) : fzO lo st d = some d := by
  cases d with
  | lst xs => obtain ⟨vs, _, r⟩ := r; simp only [fzO, rss_low hl r, Option.map_some]
  | ins c xs => obtain ⟨C, dx, vs, _, _, _, r⟩ := r; simp only [fzO, rsf_low hl r, Option.map_some]
  | dct t xs =>
    rcases r with ⟨_, ks, _, r⟩ | ⟨_, ks, _, r⟩
    · simp only [fzO, rsk_low hl r, Option.map_some]
    · simp only [fzO, rsn_low hl r, Option.map_some]
  | dead => rfl
end
/-- the store st' cut to st's length: what did not change is as it was, the rest told by value -/
def popZ (lo : Nat) (st' : DSto) : DSto → DSto → Option DSto
  | [], _ => some []
  | _ :: _, [] => none
  | o :: os, p :: ps => if p = o then (popZ lo st' os ps).map (o :: ·) else (fzO lo st' p).bind fun q => (popZ lo st' os ps).map (q :: ·)
def popS (st st' : DSto) : Option DSto := popZ st.length st' st st'
section
variable {T : Tb} {M M' : Mu} {H H' : Hp} {st st' : DSto}
theorem popZ_len {lo : Nat} {st' : DSto} : ∀ {a b c : DSto}, popZ lo st' a b = some c → c.length = a.length
  | [], _, c, h => by cases h; rfl
  | _ :: _, [], c, h => by cases h
  | o :: os, p :: ps, c, h => by
    unfold popZ at h
    split at h
    · obtain ⟨d, h1, rfl⟩ := Option.map_eq_some_iff.mp h
      simp [popZ_len h1]
    · obtain ⟨q, _, h⟩ := Option.bind_eq_some_iff.mp h
      obtain ⟨d, h1, rfl⟩ := Option.map_eq_some_iff.mp h
      simp [popZ_len h1]
theorem popZ_get {lo : Nat} {st' : DSto} : ∀ {a b c : DSto} {i : Nat} {o : DObj}, popZ lo st' a b = some c → c[i]? = some o → ∃ p, b[i]? = some p ∧ ((a[i]? = some p ∧ o = p) ∨ fzO lo st' p = some o)
  | [], _, c, i, o, h, e => by cases h; simp at e
  | _ :: _, [], c, i, o, h, e => by cases h
  | x :: os, p :: ps, c, i, o, h, e => by
    unfold popZ at h
    split at h
    · rename_i hp
      obtain ⟨d, h1, rfl⟩ := Option.map_eq_some_iff.mp h
      cases i with
      | zero => simp at e; subst e; exact ⟨p, rfl, .inl ⟨by rw [hp]; rfl, hp.symm⟩⟩
      | succ i => simpa using popZ_get h1 (by simpa using e)
    · obtain ⟨q, hq, h⟩ := Option.bind_eq_some_iff.mp h
      obtain ⟨d, h1, rfl⟩ := Option.map_eq_some_iff.mp h
      cases i with
      | zero => simp at e; subst e; exact ⟨p, rfl, .inr hq⟩
      | succ i => simpa using popZ_get h1 (by simpa using e)
theorem Ex.cutd (x : Ex M H M' H') (hl : M.l.length = n) : Cutd n M' M := by
  obtain ⟨ν, e⟩ := x.pre
  exact ⟨by rw [e, ← hl]; simp, x.x.symm⟩
/-- the cut store is held -/
theorem pop_sok (s0 : SOk T M H st) (s : SOk T M' H' st') (x : Ex M H M' H') {st2 : DSto} (h : popS st st' = some st2) : SOk T M H' st2 ∧ Ex M H M H' := by
  have c : Cutd st.length M' M := x.cutd s0.len
  have hl := popZ_len h
  refine ⟨⟨by rw [hl]; exact s0.len, fun i o a e1 e2 => ?_, s0.inj, s0.dis, fun b hb => ?_⟩, ⟨[], by simp⟩, rfl, x.kp, x.bx, fun a h n => absurd h n⟩
  · obtain ⟨p, e3, h3⟩ := popZ_get h e1
    have ro := s.ro i p a e3 (x.get e2)
    rcases h3 with ⟨e4, rfl⟩ | h3
    · -- unchanged: its data stand below
      have r0 := s0.ro i o a e4 e2
      exact fzO_ok s c (fzO_low (Nat.le_of_eq s0.len) (st := st') r0) ro
    · exact fzO_ok s c h3 ro
  · exact s.bld b (by rw [x.x]; exact hb)
end
end FV

set_option Elab.async false
set_option linter.all false
set_option maxRecDepth 100000
set_option maxHeartbeats 4000000
namespace FV
open PySem PySem.Spec PyProof.Rows L2

/-! ### what is wanted behind -/
def Post {α β : Type} (T : Tb) (R : Mu → Hp → α → β → Prop) (W : WX) (σ : L2.St) (M : Mu) (H : Hp) (r : DRes α) (Q : β → Hp → Prop) : Prop := match r with
  | .ok d st => ∀ M' v H', SOk T M' H' st → Ex M H M' H' → R M' H' d v → Q v H'
  | .exc c fs st => ∀ M' H' C dd xs, SOk T M' H' st → Ex M H M' H' → T.CT[c]? = some C → Fr M' dd → H' dd = some (.xd xs) → RX T M' H' fs xs → W (.ref C) (some dd) σ H'
  | .bad => False
abbrev RB : Mu → Hp → Bool → Bool → Prop := fun _ _ a b => a = b
section
variable {α β γ δ : Type} {T : Tb} {R : Mu → Hp → α → β → Prop} {R' : Mu → Hp → γ → δ → Prop} {W : WX} {σ : L2.St} {M M1 : Mu} {H H1 : Hp}
theorem Post.ex {r : DRes α} {Q : β → Hp → Prop} (h : Post T R W σ M H r Q) (x : Ex M H M1 H1) : Post T R W σ M1 H1 r Q := by
  cases r with
  | ok d st => exact fun M' v H' s y rr => h M' v H' s (x.trans y) rr
  | exc c fs st => exact fun M' H' C dd xs s y => h M' H' C dd xs s (x.trans y)
  | bad => exact h
theorem Post.bind {r : DRes α} {f : α → DSto → DRes γ} {Q : δ → Hp → Prop} (h : Post T R' W σ M H (r.bind f) Q) :
    Post T R W σ M H r (fun b H1 => ∃ M1 a st1, SOk T M1 H1 st1 ∧ Ex M H M1 H1 ∧ R M1 H1 a b ∧ Post T R' W σ M1 H1 (f a st1) Q) := by
  cases r with
  | ok d st => exact fun M' v H' s y rr => ⟨M', d, st, s, y, rr, Post.ex h y⟩
  | exc c fs st => exact h
  | bad => exact h
theorem Post.mono {r : DRes α} {Q Q' : β → Hp → Prop} (h : Post T R W σ M H r Q) (hq : ∀ v H', Q v H' → Q' v H') : Post T R W σ M H r Q' := by
  cases r with
  | ok d st => exact fun M' v H' s y rr => hq _ _ (h M' v H' s y rr)
  | exc c fs st => exact h
  | bad => exact h
end
/-- an operation on data: its answer and the store behind -/
abbrev OpD := D → D → DSto → Option (D × DSto)
def ofO {α : Type} : Option (α × DSto) → DRes α
  | some (a, st) => .ok a st
  | none => .bad
def PostO (T : Tb) (M : Mu) (H : Hp) (r : Option (D × DSto)) (Q : VK) : Prop := match r with
  | some (d, st) => ∀ M' v H', SOk T M' H' st → Ex M H M' H' → RV T M' H' d v → Q v H'
  | none => False
theorem PostO.of {T : Tb} {W : WX} {σ : L2.St} {M : Mu} {H : Hp} {r : Option (D × DSto)} {Q : VK} (h : Post T (RV T) W σ M H (ofO r) Q) : PostO T M H r Q := by
  cases r with
  | none => exact h
  | some p => exact h

/-! ### the judgements -/
def tI (T : Tb) (W : WX) (d : Den) : TE := fun σ H Q => ∃ M ρ st, SOk T M H st ∧ EOk T M H ρ σ ∧ Post T (RV T) W σ M H (d ρ st) Q
def tT (T : Tb) (W : WX) (d : DenT) : TT := fun σ H Q => ∃ M ρ st, SOk T M H st ∧ EOk T M H ρ σ ∧ Post T RB W σ M H (d ρ st) Q
def tA (T : Tb) (W : WX) (d : DenA) : TA := fun σ H Q => ∃ M ρ st, SOk T M H st ∧ EOk T M H ρ σ ∧ Post T (RVs T) W σ M H (d ρ st) Q
def PostS (T : Tb) (W : WX) (D : Ends) (M : Mu) (H : Hp) (r : DStm) : Prop := match r with
  | .nx ρ st => ∀ M' σ' H', SOk T M' H' st → Ex M H M' H' → EOk T M' H' ρ σ' → D.nx σ' H'
  | .rt d st => ∀ M' v H', SOk T M' H' st → Ex M H M' H' → RV T M' H' d v → D.rt v H'
  | .bk ρ st => ∀ M' σ' H', SOk T M' H' st → Ex M H M' H' → EOk T M' H' ρ σ' → D.bk σ' H'
  | .ct ρ st => ∀ M' σ' H', SOk T M' H' st → Ex M H M' H' → EOk T M' H' ρ σ' → D.ct σ' H'
  | .exc c fs ρ st => ∀ M' σ' H' C dd xs, SOk T M' H' st → Ex M H M' H' → EOk T M' H' ρ σ' → T.CT[c]? = some C → Fr M' dd → H' dd = some (.xd xs) → RX T M' H' fs xs → W (.ref C) (some dd) σ' H'
  | .bad => False
def tS (T : Tb) (W : WX) (d : DenS) : TS := fun D σ H => ∃ M ρ st, SOk T M H st ∧ EOk T M H ρ σ ∧ PostS T W D M H (d ρ st)
abbrev PX (X : Cx) (T : Tb) (W : WX) (e : Expr) (d : Den) : Prop := PE X e (tI T W d)
abbrev PTX (X : Cx) (T : Tb) (W : WX) (e : Expr) (d : DenT) : Prop := PT X e (tT T W d)
abbrev PWX (X : Cx) (T : Tb) (W : WX) (e : Expr) (d : DenT) : Prop := PW X e (tT T W d)
abbrev PAX (X : Cx) (T : Tb) (W : WX) (es : List Expr) (d : DenA) : Prop := PA X es (tA T W d)
abbrev PSX (X : Cx) (T : Tb) (W : WX) (st : Stmt) (d : DenS) : Prop := PS X st (tS T W d)
abbrev PSsX (X : Cx) (T : Tb) (W : WX) (st : List Stmt) (d : DenS) : Prop := PSs X st (tS T W d)
/-- the context fits the tables -/
structure Fits (X : Cx) (T : Tb) (W : WX) : Prop where
  K : X.K = T.K
  tk : Takes X W

section
variable {X : Cx} {T : Tb} {W : WX} {pos : Pos}
theorem pe_imp {e : Expr} {t t' : TE} (h : PE X e t) (f : ∀ σ H Q, t' σ H Q → t σ H Q) : PE X e t' := ⟨fun pins s σ H Q I q => h.run pins s σ H Q I (f σ H Q q)⟩
theorem pt_imp {e : Expr} {t t' : TT} (h : PT X e t) (f : ∀ σ H Q, t' σ H Q → t σ H Q) : PT X e t' := ⟨fun pins s σ H Q I q => h.run pins s σ H Q I (f σ H Q q)⟩
theorem pw_imp {e : Expr} {t t' : TT} (h : PW X e t) (f : ∀ σ H Q, t' σ H Q → t σ H Q) : PW X e t' := ⟨fun wh pins s σ H Q I q => h.run wh pins s σ H Q I (f σ H Q q)⟩
theorem pa_imp {e : List Expr} {t t' : TA} (h : PA X e t) (f : ∀ σ H Q, t' σ H Q → t σ H Q) : PA X e t' := ⟨fun po pins s σ H Q I q => h.run po pins s σ H Q I (f σ H Q q)⟩
theorem ps_imp {e : Stmt} {t t' : TS} (h : PS X e t) (f : ∀ D σ H, t' D σ H → t D σ H) : PS X e t' := ⟨fun pins s σ H D I q => h.run pins s σ H D I (f D σ H q)⟩
theorem pss_imp {e : List Stmt} {t t' : TS} (h : PSs X e t) (f : ∀ D σ H, t' D σ H → t D σ H) : PSs X e t' := ⟨fun pins s σ H D I q => h.run pins s σ H D I (f D σ H q)⟩

/-! ### names, constants -/
def dVar (i : Nat) : Den := fun ρ st => match ρ[i]? with
  | some (some d) => .ok d st
  | _ => .bad
def dC (d : D) : Den := fun _ st => .ok d st
theorem px_var (i : Nat) {x : Str} (hN : X.N[i]? = some x := by rfl) (hv : Vis X.env.scope x := by first | exact Or.inl rfl | exact Or.inr (Or.inl rfl) | exact Or.inr (Or.inr rfl)) (hd : (x == ("__debug__" : Str)) = false := by decide)
    (hcd : (x == ("__classdict__" : Str)) = false := by decide) : PX X T W (.Name x pos) (dVar i) :=
  pe_imp (pe_var hN hv hd hcd) fun σ H Q ⟨M, ρ, st, s, e, h⟩ => by
    unfold dVar at h
    cases q : ρ[i]? with
    | none => rw [q] at h; exact h.elim
    | some o =>
      rw [q] at h
      cases o with
      | none => exact h.elim
      | some d =>
        obtain ⟨v, e1, r⟩ := e.val i d q
        exact ⟨v, e1, h M v H s .refl r⟩
theorem px_const {e : Expr} {v : V} {d : D} (h : PE X e (tC v)) (r : ∀ M H, RV T M H d v) : PX X T W e (dC d) :=
  pe_imp h fun σ H Q ⟨M, ρ, st, s, e, h⟩ => h M v H s .refl (r M H)
theorem px_int {i : Int} {j} : PX X T W (.Constant (.int i) j pos) (dC (.int i)) := px_const pe_int fun _ _ => by simp [RV]
theorem px_bl {b : Bool} {j} : PX X T W (.Constant (.bool b) j pos) (dC (.bl b)) := px_const pe_bl fun _ _ => by simp [RV]
theorem px_non {j} : PX X T W (.Constant .none j pos) (dC .non) := px_const pe_non fun _ _ => by simp [RV]
theorem px_str {x : Str} {j} : PX X T W (.Constant (.str x) j pos) (dC (.str x)) := px_const pe_str fun _ _ => by simp [RV]

/-! ### operators -/
def rD (T : Tb) (f : OpD) : R2 := fun x y H Q => ∃ M d e st, SOk T M H st ∧ RV T M H d x ∧ RV T M H e y ∧ PostO T M H (f d e st) Q
abbrev OpX (X : Cx) (T : Tb) (F : Value → Value → Sem Value) (f : OpD) : Prop := OpR X F (rD T f)
theorem OpR.imp {F : Value → Value → Sem Value} {r r' : R2} (h : OpR X F r) (f : ∀ x y H Q, r' x y H Q → r x y H Q) : OpR X F r' := fun pins s σ H x y v u Q I rx ry q => h pins s σ H x y v u Q I rx ry (f x y H Q q)
def dOp (f : OpD) (a b : Den) : Den := fun ρ st => (a ρ st).bind fun x st => (b ρ st).bind fun y st => ofO (f x y st)
theorem tOp_of {f : OpD} {a b : Den} {σ : L2.St} {H : Hp} {Q : VK} (h : tI T W (dOp f a b) σ H Q) : tOp (rD T f) (tI T W a) (tI T W b) σ H Q := by
  obtain ⟨M, ρ, st, s, e, h⟩ := h
  refine ⟨M, ρ, st, s, e, (Post.bind (R := RV T) h).mono fun v H1 ⟨M1, x, st1, s1, x1, r1, h1⟩ => ?_⟩
  refine ⟨M1, ρ, st1, s1, e.ex x1, (Post.bind (R := RV T) h1).mono fun u H2 ⟨M2, y, st2, s2, x2, r2, h2⟩ => ?_⟩
  exact ⟨M2, x, y, st2, s2, r1.ex x2, r2, PostO.of h2⟩
theorem px_op {op : Operator} {f : OpD} {a b : Expr} {da db : Den} (ho : OpX X T (binaryOp op) f) (ha : PX X T W a da) (hb : PX X T W b db) : PX X T W (.BinOp a op b pos) (dOp f da db) :=
  pe_imp (pe_op ho ha hb) fun _ _ _ h => tOp_of h
theorem px_cmp {op : CmpOp} {f : OpD} {a b : Expr} {da db : Den} (ho : OpX X T (compareOp op) f) (ha : PX X T W a da) (hb : PX X T W b db) (hm : behindInMarks op b = false := by first | exact nomark _ | rfl) : PX X T W (.Compare a [op] [b] pos) (dOp f da db) :=
  pe_imp (pe_cmpR ho ha hb hm) fun _ _ _ h => tOp_of h
/-- a value that is a bool, as a test -/
def dB (d : Den) : DenT := fun ρ st => (d ρ st).bind fun x st => match x with
  | .bl b => .ok b st
  | _ => .bad
theorem dB_post {d : Den} {σ : L2.St} {M : Mu} {H : Hp} {ρ : DEnv} {st : DSto} {Q : Bool → Hp → Prop} (h : Post T RB W σ M H (dB d ρ st) Q) : Post T (RV T) W σ M H (d ρ st) (fun x H1 => ∃ c, x = .bl c ∧ Q c H1) := by
  refine (Post.bind (R := RV T) h).mono fun v H1 ⟨M1, x, st1, s1, x1, r1, h1⟩ => ?_
  cases x with
  | bl b =>
    simp only [RV] at r1
    exact ⟨b, r1, h1 M1 b H1 s1 .refl rfl⟩
  | _ => exact h1.elim
theorem ptx_cmp {op : CmpOp} {f : OpD} {a b : Expr} {da db : Den} (ho : OpX X T (compareOp op) f) (ha : PX X T W a da) (hb : PX X T W b db) (hm : behindInMarks op b = false := by first | exact nomark _ | rfl) : PTX X T W (.Compare a [op] [b] pos) (dB (dOp f da db)) :=
  pt_imp (pt_cmpR ho ha hb hm) fun σ H Q ⟨M, ρ, st, s, e, h⟩ => tOp_of ⟨M, ρ, st, s, e, dB_post h⟩
theorem ptx_val {e : Expr} {d : Den} (h : PX X T W e d) (he : ∀ whole, isTrue e X.env whole = (do let v ← whole; standAt e.pos; holding [v] (truthy v)) := by intro _; rfl) : PTX X T W e (dB d) :=
  pt_imp (pt_val h he) fun σ H Q ⟨M, ρ, st, s, e, h⟩ => ⟨M, ρ, st, s, e, dB_post h⟩
/-- a < b < c, the middle one asked once -/
def dChain (f g : OpD) (a b c : Den) : Den := fun ρ st => (a ρ st).bind fun x st => (b ρ st).bind fun y st => (ofO (f x y st)).bind fun k st => match k with
  | .bl true => (c ρ st).bind fun z st => ofO (g y z st)
  | .bl false => .ok (.bl false) st
  | _ => .bad
theorem PostO.of_bind {α β : Type} {R : Mu → Hp → α → β → Prop} {σ : L2.St} {M : Mu} {H : Hp} {r : Option (D × DSto)} {f : D → DSto → DRes α} {Q : β → Hp → Prop} (h : Post T R W σ M H ((ofO r).bind f) Q) :
    PostO T M H r (fun b H1 => ∃ M1 a st1, SOk T M1 H1 st1 ∧ Ex M H M1 H1 ∧ RV T M1 H1 a b ∧ Post T R W σ M1 H1 (f a st1) Q) := PostO.of (W := W) (σ := σ) (Post.bind (R := RV T) h)
theorem tChain_of {f g : OpD} {a b c : Den} {σ : L2.St} {H : Hp} {Q : VK} (h : tI T W (dChain f g a b c) σ H Q) : tChain (rD T f) (rD T g) (tI T W a) (tI T W b) (tI T W c) σ H Q := by
  obtain ⟨M, ρ, st, s, e, h⟩ := h
  refine ⟨M, ρ, st, s, e, (Post.bind (R := RV T) h).mono fun v H1 ⟨M1, x, st1, s1, x1, r1, h1⟩ => ?_⟩
  refine ⟨M1, ρ, st1, s1, e.ex x1, (Post.bind (R := RV T) h1).mono fun u H2 ⟨M2, y, st2, s2, x2, r2, h2⟩ => ?_⟩
  have h3 := PostO.of_bind h2
  refine ⟨M2, x, y, st2, s2, r1.ex x2, r2, ?_⟩
  cases q : f x y st2 with
  | none => rw [q] at h3; exact h3
  | some p =>
    rw [q] at h3
    intro M3 v3 H3 s3 x3 r3
    obtain ⟨M4, k, st4, s4, x4, r4, h4⟩ := h3 M3 v3 H3 s3 x3 r3
    cases k with
    | bl k =>
      simp only [RV] at r4
      refine ⟨k, r4, ?_⟩
      cases k with
      | false => exact h4 M4 _ H3 s4 .refl (by simp [RV])
      | true =>
        refine ⟨M4, ρ, st4, s4, (e.ex x1).ex (x2.trans x4), (Post.bind (R := RV T) h4).mono fun w H5 ⟨M5, z, st5, s5, x5, r5, h5⟩ => ?_⟩
        exact ⟨M5, y, z, st5, s5, (r2.ex x4).ex x5, r5, PostO.of h5⟩
    | _ => exact h4.elim
theorem px_chain {op op' : CmpOp} {f g : OpD} {a b c : Expr} {da db dc : Den} (ho : OpX X T (compareOp op) f) (ho' : OpX X T (compareOp op') g) (ha : PX X T W a da) (hb : PX X T W b db) (hc : PX X T W c dc) (hm : lastMarks [op, op'] [b, c] = false := by with_unfolding_all rfl) : PX X T W (.Compare a [op, op'] [b, c] pos) (dChain f g da db dc) :=
  pe_imp (pe_chain ho ho' ha hb hc hm) fun _ _ _ h => tChain_of h
theorem ptx_chain {op op' : CmpOp} {f g : OpD} {a b c : Expr} {da db dc : Den} (ho : OpX X T (compareOp op) f) (ho' : OpX X T (compareOp op') g) (ha : PX X T W a da) (hb : PX X T W b db) (hc : PX X T W c dc) (hm : lastMarks [op, op'] [b, c] = false := by with_unfolding_all rfl) : PTX X T W (.Compare a [op, op'] [b, c] pos) (dB (dChain f g da db dc)) :=
  pt_imp (pt_chain ho ho' ha hb hc hm) fun σ H Q ⟨M, ρ, st, s, e, h⟩ => tChain_of ⟨M, ρ, st, s, e, dB_post h⟩

/-! ### and, or, not -/
def dAnd (a b : DenT) : DenT := fun ρ st => (a ρ st).bind fun x st => if x = true then b ρ st else .ok false st
def dOr (a b : DenT) : DenT := fun ρ st => (a ρ st).bind fun x st => if x = true then .ok true st else b ρ st
def dNot (a : DenT) : DenT := fun ρ st => (a ρ st).bind fun x st => .ok (!x) st
def dIf (t : DenT) (a b : Den) : Den := fun ρ st => (t ρ st).bind fun x st => if x = true then a ρ st else b ρ st
def dAndV (a b : Den) : Den := fun ρ st => (a ρ st).bind fun x st => match x with
  | .bl true => b ρ st
  | .bl false => .ok (.bl false) st
  | _ => .bad
def dOrV (a b : Den) : Den := fun ρ st => (a ρ st).bind fun x st => match x with
  | .bl true => .ok (.bl true) st
  | .bl false => b ρ st
  | _ => .bad
def dNotV (a : Den) : Den := fun ρ st => (a ρ st).bind fun x st => match x with
  | .bl b => .ok (.bl (!b)) st
  | _ => .bad
variable {a b c : Expr} {rest : List Expr} {da db : Den} {ta tb : DenT}
theorem pwx_and1 (ha : PTX X T W a ta) : PWX X T W (.BoolOp .And [a] pos) ta := pw_and1 ha
theorem pwx_or1 (ha : PTX X T W a ta) : PWX X T W (.BoolOp .Or [a] pos) ta := pw_or1 ha
theorem pwx_and (ha : PTX X T W a ta) (hb : PWX X T W (.BoolOp .And (b :: rest) pos) tb) : PWX X T W (.BoolOp .And (a :: b :: rest) pos) (dAnd ta tb) :=
  pw_imp (pw_and ha hb) fun σ H Q ⟨M, ρ, st, s, e, h⟩ => by
    refine ⟨M, ρ, st, s, e, (Post.bind (R := RB) h).mono fun k H1 ⟨M1, k', st1, s1, x1, r1, h1⟩ => ?_⟩
    obtain rfl : k' = k := r1
    cases k' with
    | true => exact ⟨M1, ρ, st1, s1, e.ex x1, h1⟩
    | false => exact h1 M1 _ H1 s1 .refl rfl
theorem pwx_or (ha : PTX X T W a ta) (hb : PWX X T W (.BoolOp .Or (b :: rest) pos) tb) : PWX X T W (.BoolOp .Or (a :: b :: rest) pos) (dOr ta tb) :=
  pw_imp (pw_or ha hb) fun σ H Q ⟨M, ρ, st, s, e, h⟩ => by
    refine ⟨M, ρ, st, s, e, (Post.bind (R := RB) h).mono fun k H1 ⟨M1, k', st1, s1, x1, r1, h1⟩ => ?_⟩
    obtain rfl : k' = k := r1
    cases k' with
    | true => exact h1 M1 _ H1 s1 .refl rfl
    | false => exact ⟨M1, ρ, st1, s1, e.ex x1, h1⟩
theorem ptx_bool (h : PWX X T W a ta) : PTX X T W a ta := PW.pt h
theorem ptx_not (ha : PTX X T W a ta) : PTX X T W (.UnaryOp .Not a pos) (dNot ta) :=
  pt_imp (pt_not ha) fun σ H Q ⟨M, ρ, st, s, e, h⟩ => by
    refine ⟨M, ρ, st, s, e, (Post.bind (R := RB) h).mono fun k H1 ⟨M1, k', st1, s1, x1, r1, h1⟩ => ?_⟩
    cases r1
    exact h1 M1 _ H1 s1 .refl rfl
theorem px_if (hc : PTX X T W c ta) (ha : PX X T W a da) (hb : PX X T W b db) : PX X T W (.IfExp c a b pos) (dIf ta da db) :=
  pe_imp (pe_ifExp hc ha hb) fun σ H Q ⟨M, ρ, st, s, e, h⟩ => by
    refine ⟨M, ρ, st, s, e, (Post.bind (R := RB) h).mono fun k H1 ⟨M1, k', st1, s1, x1, r1, h1⟩ => ?_⟩
    obtain rfl : k' = k := r1
    cases k' with
    | true => exact ⟨M1, ρ, st1, s1, e.ex x1, h1⟩
    | false => exact ⟨M1, ρ, st1, s1, e.ex x1, h1⟩
theorem px_one {op} (h : PX X T W a da) : PX X T W (.BoolOp op [a] pos) da := pe_one h
theorem px_and (ha : PX X T W a da) (hb : PX X T W (.BoolOp .And (b :: rest) pos) db) : PX X T W (.BoolOp .And (a :: b :: rest) pos) (dAndV da db) :=
  pe_imp (pe_and ha hb) fun σ H Q ⟨M, ρ, st, s, e, h⟩ => by
    refine ⟨M, ρ, st, s, e, (Post.bind (R := RV T) h).mono fun k H1 ⟨M1, k', st1, s1, x1, r1, h1⟩ => ?_⟩
    cases k' with
    | bl k =>
      simp only [RV] at r1
      refine ⟨k, r1, ?_⟩
      cases k with
      | true => exact ⟨M1, ρ, st1, s1, e.ex x1, h1⟩
      | false => exact h1 M1 _ H1 s1 .refl (by simp [RV])
    | _ => exact h1.elim
theorem px_or (ha : PX X T W a da) (hb : PX X T W (.BoolOp .Or (b :: rest) pos) db) : PX X T W (.BoolOp .Or (a :: b :: rest) pos) (dOrV da db) :=
  pe_imp (pe_or ha hb) fun σ H Q ⟨M, ρ, st, s, e, h⟩ => by
    refine ⟨M, ρ, st, s, e, (Post.bind (R := RV T) h).mono fun k H1 ⟨M1, k', st1, s1, x1, r1, h1⟩ => ?_⟩
    cases k' with
    | bl k =>
      simp only [RV] at r1
      refine ⟨k, r1, ?_⟩
      cases k with
      | true => exact h1 M1 _ H1 s1 .refl (by simp [RV])
      | false => exact ⟨M1, ρ, st1, s1, e.ex x1, h1⟩
    | _ => exact h1.elim
theorem px_not (ha : PX X T W a da) : PX X T W (.UnaryOp .Not a pos) (dNotV da) :=
  pe_imp (pe_not ha) fun σ H Q ⟨M, ρ, st, s, e, h⟩ => by
    refine ⟨M, ρ, st, s, e, (Post.bind (R := RV T) h).mono fun k H1 ⟨M1, k', st1, s1, x1, r1, h1⟩ => ?_⟩
    cases k' with
    | bl k =>
      simp only [RV] at r1
      exact ⟨k, r1, h1 M1 _ H1 s1 .refl (by simp [RV])⟩
    | _ => exact h1.elim

/-! ### argument lists, displays -/
def dNil : DenA := fun _ st => .ok [] st
def dCons (a : Den) (r : DenA) : DenA := fun ρ st => (a ρ st).bind fun x st => (r ρ st).bind fun xs st => .ok (x :: xs) st
/-- the items of a tuple or a list -/
def itemsD (d : D) (st : DSto) : Option (List D) := match d with
  | .tup xs => some xs
  | .lst xs => some xs
  | .ref n => match st[n]? with
    | some (.lst xs) => some xs
    | _ => none
  | .scr ns => some (ns.map D.int)
  | _ => none
def dStar (a : Den) (r : DenA) : DenA := fun ρ st => (a ρ st).bind fun x st => match itemsD x st with
  | some ys => (r ρ st).bind fun xs st => .ok (ys ++ xs) st
  | none => .bad
theorem rvs_ints {M : Mu} {H : Hp} : ∀ ns : List Int, RVs T M H (ns.map D.int) (ns.map V.int)
  | [] => by simp [RVs]
  | n :: ns => by simp only [List.map_cons, RVs]; exact ⟨_, _, rfl, by simp [RV], rvs_ints ns⟩
theorem items_of {K : PySem.W.Frag} {M : Mu} {H : Hp} {st : DSto} {d : D} {v : V} {xs : List D} (hK : K = T.K) (s : SOk T M H st) (r : RV T M H d v) (h : itemsD d st = some xs) :
    ∃ a vs, v = .ref a ∧ RVs T M H xs vs ∧ (SqL K H a vs ∨ SqT K H a vs) := by
  subst hK
  cases d with
  | tup ys =>
    simp only [RV] at r
    obtain ⟨a, vs, rfl, _, e, rr⟩ := r
    cases (show some ys = some xs from h)
    exact ⟨a, vs, rfl, rr, .inr (SqT.of e)⟩
  | lst ys =>
    simp only [RV] at r
    obtain ⟨a, vs, rfl, _, e, rr⟩ := r
    cases (show some ys = some xs from h)
    exact ⟨a, vs, rfl, rr, .inl (SqL.of e)⟩
  | ref n =>
    simp only [RV] at r
    obtain ⟨a, rfl, e⟩ := r
    unfold itemsD at h
    dsimp only at h
    cases q : st[n]? with
    | none => rw [q] at h; cases h
    | some o =>
      rw [q] at h
      have ro := s.ro n o a q e
      cases o with
      | lst ys =>
        cases (show some ys = some xs from h)
        obtain ⟨vs, e1, rr⟩ := ro
        exact ⟨a, vs, rfl, rr, .inl (SqL.of e1)⟩
      | _ => cases h
  | scr ns =>
    simp only [RV] at r
    obtain ⟨a, rfl, e⟩ := r
    cases (show some (ns.map D.int) = some xs from h)
    refine ⟨a, ns.map V.int, rfl, rvs_ints ns, .inl ?_⟩
    rcases e with ⟨o, _, e⟩ | e
    · exact .inl (.inr ⟨o, e⟩)
    · exact .inr e
  | _ => cases h
variable {e : Expr} {es : List Expr} {d : Den} {t : DenA}
theorem pax_nil : PAX X T W [] dNil := pa_imp pa_nil fun σ H Q ⟨M, ρ, st, s, e, h⟩ => h M [] H s .refl (by simp [RVs])
theorem pax_cons (ha : PX X T W e d) (hr : PAX X T W es t) (hs : starEach (e :: es) X.env = (false, eval e X.env) :: starEach es X.env := by rfl) : PAX X T W (e :: es) (dCons d t) :=
  pa_imp (pa_cons ha hr hs) fun σ H Q ⟨M, ρ, st, s, e, h⟩ => by
    refine ⟨M, ρ, st, s, e, (Post.bind (R := RV T) h).mono fun v H1 ⟨M1, x, st1, s1, x1, r1, h1⟩ => ?_⟩
    refine ⟨M1, ρ, st1, s1, e.ex x1, (Post.bind (R := RVs T) h1).mono fun vs H2 ⟨M2, xs, st2, s2, x2, r2, h2⟩ => ?_⟩
    exact h2 M2 _ H2 s2 .refl (by simp only [RVs]; exact ⟨v, vs, rfl, r1.ex x2, r2⟩)
theorem pax_star {p : Pos} (hF : Fits X T W) (ha : PX X T W e d) (hr : PAX X T W es t) (hs : starEach (.Starred e p :: es) X.env = (true, eval e X.env) :: starEach es X.env := by rfl) : PAX X T W (.Starred e p :: es) (dStar d t) :=
  pa_imp (StX.pa_star ha hr hs) fun σ H Q ⟨M, ρ, st, s, e, h⟩ => by
    refine ⟨M, ρ, st, s, e, (Post.bind (R := RV T) h).mono fun v H1 ⟨M1, x, st1, s1, x1, r1, h1⟩ => ?_⟩
    cases q : itemsD x st1 with
    | none => rw [q] at h1; exact h1.elim
    | some ys =>
      rw [q] at h1
      obtain ⟨a, vs, rfl, rr, sq⟩ := items_of hF.K s1 r1 q
      refine ⟨a, vs, rfl, sq.symm, M1, ρ, st1, s1, e.ex x1, (Post.bind (R := RVs T) h1).mono fun us H2 ⟨M2, xs, st2, s2, x2, r2, h2⟩ => ?_⟩
      exact h2 M2 _ H2 s2 .refl ((rr.ex x2).app r2)
def mkTup (xs : List D) (st : DSto) : DRes D := if xs.length ≤ sizeLine then .ok (.tup xs) st else .bad
def mkLst (xs : List D) (st : DSto) : DRes D := if xs.length ≤ sizeLine then .ok (.ref st.length) (st ++ [.lst xs]) else .bad
def mkLstV (xs : List D) (st : DSto) : DRes D := if xs.length ≤ sizeLine then .ok (.lst xs) st else .bad
def dLstV (t : DenA) : Den := fun ρ st => (t ρ st).bind mkLstV
def dTup (t : DenA) : Den := fun ρ st => (t ρ st).bind mkTup
def dLst (t : DenA) : Den := fun ρ st => (t ρ st).bind mkLst
theorem px_tup {x1} (h : PAX X T W es t) : PX X T W (.Tuple es x1 pos) (dTup t) :=
  pe_imp (pe_tup h) fun σ H Q ⟨M, ρ, st, s, e, h⟩ => by
    refine ⟨M, ρ, st, s, e, (Post.bind (R := RVs T) h).mono fun vs H1 ⟨M1, xs, st1, s1, x1, r1, h1⟩ => ?_⟩
    unfold mkTup at h1
    by_cases hz : xs.length ≤ sizeLine
    · rw [if_pos hz] at h1
      refine ⟨by rw [r1.len]; exact hz, fun p hp => ?_⟩
      obtain ⟨a1, a2, a3⟩ := upd_tup_ok s1 r1 hp
      exact h1 M1 _ _ a1 a2 a3
    · rw [if_neg hz] at h1; exact h1.elim
theorem px_lst (h : PAX X T W es t) : PX X T W (.List es pos) (dLst t) :=
  pe_imp (pe_lst h) fun σ H Q ⟨M, ρ, st, s, e, h⟩ => by
    refine ⟨M, ρ, st, s, e, (Post.bind (R := RVs T) h).mono fun vs H1 ⟨M1, xs, st1, s1, x1, r1, h1⟩ => ?_⟩
    unfold mkLst at h1
    by_cases hz : xs.length ≤ sizeLine
    · rw [if_pos hz] at h1
      refine ⟨by rw [r1.len]; exact hz, fun p hp => ?_⟩
      obtain ⟨a1, a2, a3⟩ := new_lst_ok s1 r1 hp
      exact h1 _ _ _ a1 a2 a3
    · rw [if_neg hz] at h1; exact h1.elim
theorem px_lstV (h : PAX X T W es t) : PX X T W (.List es pos) (dLstV t) :=
  pe_imp (pe_lst h) fun σ H Q ⟨M, ρ, st, s, e, h⟩ => by
    refine ⟨M, ρ, st, s, e, (Post.bind (R := RVs T) h).mono fun vs H1 ⟨M1, xs, st1, s1, x1, r1, h1⟩ => ?_⟩
    unfold mkLstV at h1
    by_cases hz : xs.length ≤ sizeLine
    · rw [if_pos hz] at h1
      refine ⟨by rw [r1.len]; exact hz, fun p hp => ?_⟩
      obtain ⟨a1, a2, a3⟩ := upd_lst_ok s1 r1 hp
      exact h1 _ _ _ a1 a2 a3
    · rw [if_neg hz] at h1; exact h1.elim
end
end FV

set_option Elab.async false
set_option linter.all false
set_option maxRecDepth 100000
set_option maxHeartbeats 4000000
namespace FV
open PySem PySem.Spec PyProof.Rows L2

def DRes.toS {α : Type} (r : DRes α) (ρ : DEnv) (f : α → DSto → DStm) : DStm := match r with
  | .ok a st => f a st
  | .exc c fs st => .exc c fs ρ st
  | .bad => .bad
@[simp] theorem toS_ok {α : Type} (a : α) (st : DSto) (ρ : DEnv) (f : α → DSto → DStm) : (DRes.ok a st).toS ρ f = f a st := id rfl
@[simp] theorem toS_exc {α : Type} (c : Nat) (fs) (st : DSto) (ρ : DEnv) (f : α → DSto → DStm) : (DRes.exc c fs st : DRes α).toS ρ f = .exc c fs ρ st := id rfl
@[simp] theorem toS_bad {α : Type} (ρ : DEnv) (f : α → DSto → DStm) : (DRes.bad : DRes α).toS ρ f = .bad := id rfl
def DStm.andThen (r : DStm) (b : DenS) : DStm := match r with
  | .nx ρ st => b ρ st
  | r => r
@[simp] theorem andThen_nx (ρ : DEnv) (st : DSto) (b : DenS) : (DStm.nx ρ st).andThen b = b ρ st := id rfl
@[simp] theorem andThen_rt (d : D) (st : DSto) (b : DenS) : (DStm.rt d st).andThen b = .rt d st := id rfl
@[simp] theorem andThen_bk (ρ : DEnv) (st : DSto) (b : DenS) : (DStm.bk ρ st).andThen b = .bk ρ st := id rfl
@[simp] theorem andThen_ct (ρ : DEnv) (st : DSto) (b : DenS) : (DStm.ct ρ st).andThen b = .ct ρ st := id rfl
@[simp] theorem andThen_exc (c : Nat) (fs) (ρ : DEnv) (st : DSto) (b : DenS) : (DStm.exc c fs ρ st).andThen b = .exc c fs ρ st := id rfl
@[simp] theorem andThen_bad (b : DenS) : DStm.bad.andThen b = .bad := id rfl

section
variable {α β : Type} {T : Tb} {R : Mu → Hp → α → β → Prop} {W : WX} {σ : L2.St} {M M1 : Mu} {H H1 : Hp} {D D' : Ends}
theorem PostS.ex {r : DStm} (h : PostS T W D M H r) (x : Ex M H M1 H1) : PostS T W D M1 H1 r := by
  cases r with
  | nx ρ st => exact fun M' σ' H' s y e => h M' σ' H' s (x.trans y) e
  | rt d st => exact fun M' v H' s y e => h M' v H' s (x.trans y) e
  | bk ρ st => exact fun M' σ' H' s y e => h M' σ' H' s (x.trans y) e
  | ct ρ st => exact fun M' σ' H' s y e => h M' σ' H' s (x.trans y) e
  | exc c fs ρ st => exact fun M' σ' H' C dd xs s y => h M' σ' H' C dd xs s (x.trans y)
  | bad => exact h
theorem PostS.bind {r : DRes α} {ρ : DEnv} {f : α → DSto → DStm} (h : PostS T W D M H (r.toS ρ f)) (e : EOk T M H ρ σ) :
    Post T R W σ M H r (fun b H1 => ∃ M1 a st1, SOk T M1 H1 st1 ∧ Ex M H M1 H1 ∧ R M1 H1 a b ∧ PostS T W D M1 H1 (f a st1)) := by
  cases r with
  | ok d st => exact fun M' v H' s y rr => ⟨M', d, st, s, y, rr, PostS.ex h y⟩
  | exc c fs st => exact fun M' H' C dd xs s y => h M' σ H' C dd xs s y (e.ex y)
  | bad => exact h
theorem PostS.seq {r : DStm} {b : DenS} (h : PostS T W D M H (r.andThen b)) : PostS T W { D with nx := tS T W b D } M H r := by
  cases r with
  | nx ρ st => exact fun M' σ' H' s y e => ⟨M', ρ, st, s, e, PostS.ex h y⟩
  | rt d st => exact h
  | bk ρ st => exact h
  | ct ρ st => exact h
  | exc c fs ρ st => exact h
  | bad => exact h
end

section
variable {X : Cx} {T : Tb} {W : WX} {pos : Pos} {st : Stmt} {rest : List Stmt} {a b : DenS} {e : Expr} {d : Den}
def dSkip : DenS := fun ρ st => .nx ρ st
def dSeq (a b : DenS) : DenS := fun ρ st => (a ρ st).andThen b
theorem pssx_nil : PSsX X T W [] dSkip := pss_imp pss_nil fun D σ H ⟨M, ρ, st, s, e, h⟩ => h M σ H s .refl e
theorem pssx_one (h : PSX X T W st a) : PSsX X T W [st] a := pss_one h
theorem pssx_cons (h1 : PSX X T W st a) (h2 : PSsX X T W rest b) : PSsX X T W (st :: rest) (dSeq a b) :=
  pss_imp (pss_cons h1 h2) fun D σ H ⟨M, ρ, st, s, e, h⟩ => ⟨M, ρ, st, s, e, PostS.seq h⟩
theorem psx_pass : PSX X T W (.Pass pos) dSkip := ps_imp ps_pass fun D σ H ⟨M, ρ, st, s, e, h⟩ => h M σ H s .refl e
def dBreak : DenS := fun ρ st => .bk ρ st
def dCont : DenS := fun ρ st => .ct ρ st
theorem psx_break : PSX X T W (.Break pos) dBreak := ps_imp ps_break fun D σ H ⟨M, ρ, st, s, e, h⟩ => h M σ H s .refl e
theorem psx_cont : PSX X T W (.Continue pos) dCont := ps_imp ps_continue fun D σ H ⟨M, ρ, st, s, e, h⟩ => h M σ H s .refl e
def dExpr (d : Den) : DenS := fun ρ st => (d ρ st).toS ρ fun _ st => .nx ρ st
theorem psx_expr (h : PX X T W e d) (hs : swapsWith e none pos.line X.env = pure false := by rfl) : PSX X T W (.Expr e pos) (dExpr d) :=
  ps_imp (ps_expr h hs) fun D σ H ⟨M, ρ, st, s, e, h⟩ => ⟨M, ρ, st, s, e, (PostS.bind (R := RV T) h e).mono fun v H1 ⟨M1, x, st1, s1, x1, r1, h1⟩ => h1 M1 σ H1 s1 .refl (e.ex x1)⟩
def dRet (d : Den) : DenS := fun ρ st => (d ρ st).toS ρ fun x st => .rt x st
theorem psx_ret (h : PX X T W e d) : PSX X T W (.Return (some e) pos) (dRet d) :=
  ps_imp (ps_ret h) fun D σ H ⟨M, ρ, st, s, e, h⟩ => ⟨M, ρ, st, s, e, (PostS.bind (R := RV T) h e).mono fun v H1 ⟨M1, x, st1, s1, x1, r1, h1⟩ => h1 M1 v H1 s1 .refl r1⟩
def dRetN : DenS := fun _ st => .rt .non st
theorem psx_retN : PSX X T W (.Return none pos) dRetN := ps_imp ps_retN fun D σ H ⟨M, ρ, st, s, e, h⟩ => h M .non H s .refl (by simp [RV])
def dIfS (t : DenT) (a b : DenS) : DenS := fun ρ st => (t ρ st).toS ρ fun k st => if k = true then a ρ st else b ρ st
theorem psx_if {c : Expr} {x y : List Stmt} {t : DenT} (hc : PTX X T W c t) (ha : PSsX X T W x a) (hb : PSsX X T W y b) : PSX X T W (.If c x y pos) (dIfS t a b) :=
  ps_imp (ps_if hc ha hb) fun D σ H ⟨M, ρ, st, s, e, h⟩ => ⟨M, ρ, st, s, e, (PostS.bind (R := RB) h e).mono fun k H1 ⟨M1, k', st1, s1, x1, r1, h1⟩ => by
    obtain rfl : k' = k := r1
    cases k' with
    | true => exact ⟨M1, ρ, st1, s1, e.ex x1, h1⟩
    | false => exact ⟨M1, ρ, st1, s1, e.ex x1, h1⟩⟩

/-! ### targets -/
abbrev DenG := D → DEnv → DSto → Option (DEnv × DSto)
/-- only the slots sl may have changed -/
def SlEq (sl : List Nat) (σ σ' : L2.St) : Prop := σ'.length = σ.length ∧ ∀ j, j ∉ sl → σ'[j]? = σ[j]?
theorem SlEq.refl {sl : List Nat} {σ : L2.St} : SlEq sl σ σ := ⟨rfl, fun _ _ => rfl⟩
def PostG (T : Tb) (sl : List Nat) (σ : L2.St) (M : Mu) (H : Hp) (r : Option (DEnv × DSto)) (Q : L2.St → Hp → Prop) : Prop := match r with
  | some (ρ', st') => ∀ M' σ' H', SOk T M' H' st' → Ex M H M' H' → EOk T M' H' ρ' σ' → SlEq sl σ σ' → Q σ' H'
  | none => False
def tG (T : Tb) (sl : List Nat) (g : DenG) : TG := fun v σ H Q => ∃ M d ρ st, SOk T M H st ∧ RV T M H d v ∧ EOk T M H ρ σ ∧ PostG T sl σ M H (g d ρ st) Q
abbrev PGX (X : Cx) (T : Tb) (sl : List Nat) (tg : Expr) (g : DenG) : Prop := PG X tg (tG T sl g)
abbrev DenGs := List D → DEnv → DSto → Option (DEnv × DSto)
def tGs (T : Tb) (sl : List Nat) (g : DenGs) : TGs := fun vs σ H Q => ∃ M ds ρ st, SOk T M H st ∧ RVs T M H ds vs ∧ EOk T M H ρ σ ∧ PostG T sl σ M H (g ds ρ st) Q
abbrev PGsX (X : Cx) (T : Tb) (sl : List Nat) (tg : List Expr) (g : DenGs) : Prop := PGs X tg (tGs T sl g)
theorem pg_imp {tg : Expr} {t t' : TG} (h : PG X tg t) (f : ∀ v σ H Q, t' v σ H Q → t v σ H Q) : PG X tg t' := ⟨fun pins s σ H v u Q I r q => h.run pins s σ H v u Q I r (f v σ H Q q)⟩
theorem pgs_imp {tg : List Expr} {t t' : TGs} (h : PGs X tg t) (f : ∀ v σ H Q, t' v σ H Q → t v σ H Q) : PGs X tg t' := ⟨fun pins s σ H v u Q I r q => h.run pins s σ H v u Q I r (f v σ H Q q)⟩
def gdName (i : Nat) : DenG := fun d ρ st => some (ρ.set i (some d), st)
theorem EOk.set {M : Mu} {H : Hp} {ρ : DEnv} {σ : L2.St} {d : D} {v : V} (e : EOk T M H ρ σ) (i : Nat) (r : RV T M H d v) : EOk T M H (ρ.set i (some d)) (σ.set i (some v)) := by
  refine ⟨by simp [e.len], fun j x h => ?_⟩
  by_cases hj : i = j
  · subst hj
    by_cases hi : i < ρ.length
    · rw [List.getElem?_set_self hi] at h
      cases h
      exact ⟨v, List.getElem?_set_self (by rw [← e.len]; exact hi), r⟩
    · rw [List.getElem?_eq_none (by simp; omega)] at h; cases h
  · rw [List.getElem?_set_ne hj] at h ⊢
    exact e.val j x h
theorem pgx_name (i : Nat) {x : Str} (hN : X.N.Nodup) (hi : X.N[i]? = some x := by rfl) (hx : Loc X.env.scope x := by first | exact Or.inl rfl | exact Or.inr rfl) (hf : X.fn x = true ∨ X.env.scope.names.lookup x = some .local := by first | exact .inl rfl | exact .inr rfl) :
    PGX X T [i] (.Name x pos) (gdName i) :=
  pg_imp (pg_name hN hi hx hf) fun v σ H Q ⟨M, d, ρ, st, s, r, e, h⟩ => h M _ H s .refl (e.set i r) ⟨by simp, fun j hj => List.getElem?_set_ne (by rintro rfl; exact hj (by simp))⟩
def gdNil : DenGs := fun ds ρ st => match ds with
  | [] => some (ρ, st)
  | _ => none
def gdCons (g : DenG) (r : DenGs) : DenGs := fun ds ρ st => match ds with
  | d :: ds => match g d ρ st with
    | some (ρ1, st1) => r ds ρ1 st1
    | none => none
  | [] => none
theorem pgsx_nil : PGsX X T [] [] gdNil := pgs_imp pgs_nil fun vs σ H Q ⟨M, ds, ρ, st, s, r, e, h⟩ => by
  cases ds with
  | nil => simp only [RVs] at r; exact ⟨r, h M σ H s .refl e .refl⟩
  | cons _ _ => exact h.elim
theorem pgsx_cons {es : List Expr} {sl sl' : List Nat} {g : DenG} {r : DenGs} (h1 : PGX X T sl e g) (h2 : PGsX X T sl' es r) (hs : (assignEach (e :: es) X.env).map (·.2) = assign e X.env :: (assignEach es X.env).map (·.2) := by rfl) :
    PGsX X T (sl ++ sl') (e :: es) (gdCons g r) := pgs_imp (pgs_cons h1 h2 hs) fun vs σ H Q ⟨M, ds, ρ, st, s, rv, e, h⟩ => by
  cases ds with
  | nil => exact h.elim
  | cons d ds =>
    simp only [RVs] at rv
    obtain ⟨v, ws, rfl, r1, r2⟩ := rv
    refine ⟨v, ws, rfl, M, d, ρ, st, s, r1, e, ?_⟩
    simp only [gdCons] at h
    cases q : g d ρ st with
    | none => rw [q] at h; exact h.elim
    | some p =>
      obtain ⟨ρ1, st1⟩ := p
      rw [q] at h
      intro M1 σ1 H1 s1 x1 e1 k1
      refine ⟨M1, ds, ρ1, st1, s1, r2.ex x1, e1, ?_⟩
      dsimp only at h
      cases q2 : r ds ρ1 st1 with
      | none => rw [q2] at h; exact h.elim
      | some p2 =>
        obtain ⟨ρ2, st2⟩ := p2
        rw [q2] at h
        exact fun M2 σ2 H2 s2 x2 e2 k2 => h M2 σ2 H2 s2 (x1.trans x2) e2 ⟨k2.1.trans k1.1, fun j hj => (k2.2 j fun z => hj (List.mem_append_right _ z)).trans (k1.2 j fun z => hj (List.mem_append_left _ z))⟩
def gdTup (n : Nat) (r : DenGs) : DenG := fun d ρ st => match d with
  | .tup xs => if xs.length = n then r xs ρ st else none
  | _ => none
theorem pgx_tup {es : List Expr} {k : Nat} {sl : List Nat} {r : DenGs} {n : Nat} (hc : X.calm = true) (h : PGsX X T sl es r) (hn : (assignEach es X.env).length = n := by rfl) (hst : (assignEach es X.env).findIdx? (·.1) = none := by rfl) :
    PGX X T sl (.Tuple es k pos) (gdTup n r) := pg_imp (pg_tup hc h hn hst) fun v σ H Q ⟨M, d, ρ, st, s, rv, e, h⟩ => by
  cases d with
  | tup xs =>
    simp only [RV] at rv
    obtain ⟨a, vs, rfl, _, e1, rr⟩ := rv
    simp only [gdTup] at h
    by_cases hl : xs.length = n
    · rw [if_pos hl] at h
      exact ⟨a, vs, rfl, SqT.of e1, by rw [rr.len]; exact hl, M, xs, ρ, st, s, rr, e, h⟩
    · rw [if_neg hl] at h; exact h.elim
  | _ => exact h.elim
/-- o[i] = v on data -/
abbrev SetD := D → D → D → DSto → Option DSto
def PostN (T : Tb) (M : Mu) (H : Hp) (r : Option DSto) (Q : Hp → Prop) : Prop := match r with
  | some st => ∀ M' H', SOk T M' H' st → Ex M H M' H' → Q H'
  | none => False
def rSet (T : Tb) (f : SetD) : TSet := fun o i v H Q => ∃ M od id d st, SOk T M H st ∧ RV T M H od o ∧ RV T M H id i ∧ RV T M H d v ∧ PostN T M H (f od id d st) Q
abbrev SetX (X : Cx) (T : Tb) (f : SetD) : Prop := PSet X (rSet T f)
theorem pset_imp {t t' : TSet} (h : PSet X t) (f : ∀ o i v H Q, t' o i v H Q → t o i v H Q) : PSet X t' := fun pins s σ H o i v ov iv u Q I r1 r2 r3 q => h pins s σ H o i v ov iv u Q I r1 r2 r3 (f o i v H Q q)
def gdSub (o i : Den) (f : SetD) : DenG := fun d ρ st => match o ρ st with
  | .ok x st1 => match i ρ st1 with
    | .ok y st2 => match f x y d st2 with
      | some st3 => some (ρ, st3)
      | none => none
    | _ => none
  | _ => none
theorem pgx_sub {o i : Expr} {od id : Den} {f : SetD} (ho : PX X T W o od) (hi : PX X T W i id) (hs : SetX X T f)
    (ha : ∀ v, assign (.Subscript o i pos) X.env v = (do
      let ov ← holding [v] (eval o X.env)
      let iv ← holding [v, ov] (eval i X.env)
      standAt pos
      holding [v, ov, iv] (setItem ov iv v)
      release [v, ov, iv] []) := by intro _; rfl) : PGX X T [] (.Subscript o i pos) (gdSub od id f) :=
  pg_imp (pg_sub ho hi hs ha) fun v σ H Q ⟨M, d, ρ, st, s, r, e, h⟩ => by
    unfold gdSub at h
    refine ⟨M, ρ, st, s, e, ?_⟩
    cases q1 : od ρ st with
    | ok x st1 =>
      simp only [q1] at h
      intro M1 xv H1 s1 x1 r1
      refine ⟨M1, ρ, st1, s1, e.ex x1, ?_⟩
      cases q2 : id ρ st1 with
      | ok y st2 =>
        simp only [q2] at h
        intro M2 yv H2 s2 x2 r2
        refine ⟨M2, x, y, d, st2, s2, r1.ex x2, r2, (r.ex x1).ex x2, ?_⟩
        cases q3 : f x y d st2 with
        | none => simp only [q3] at h; exact h.elim
        | some st3 =>
          simp only [q3] at h
          exact fun M3 H3 s3 x3 => h M3 σ H3 s3 ((x1.trans x2).trans x3) (((e.ex x1).ex x2).ex x3) .refl
      | exc c fs st2 => simp only [q2] at h; exact h.elim
      | bad => simp only [q2] at h; exact h.elim
    | exc c fs st1 => simp only [q1] at h; exact h.elim
    | bad => simp only [q1] at h; exact h.elim
def dAsgG (d : Den) (g : DenG) : DenS := fun ρ st => (d ρ st).toS ρ fun x st => match g x ρ st with
  | some (ρ', st') => .nx ρ' st'
  | none => .bad
theorem psx_asg {tg : Expr} {sl : List Nat} {g : DenG} (he : PX X T W e d) (hg : PGX X T sl tg g) (hs : swapsWithSole [tg] e pos.line X.env = pure false := by rfl) (hw : swappedStores [tg] e X.env = pure none := by rfl)
    (h1 : (assignEach [tg] X.env).map (·.2) = [assign tg X.env] := by rfl) : PSX X T W (.Assign [tg] e pos) (dAsgG d g) :=
  ps_imp (ps_asg he hg hs hw h1) fun D σ H ⟨M, ρ, st, s, e, h⟩ => ⟨M, ρ, st, s, e, (PostS.bind (R := RV T) h e).mono fun v H1 ⟨M1, x, st1, s1, x1, r1, h1⟩ => by
    refine ⟨M1, x, ρ, st1, s1, r1, e.ex x1, ?_⟩
    cases q : g x ρ st1 with
    | none => simp only [q] at h1; exact h1.elim
    | some p =>
      obtain ⟨ρ', st'⟩ := p
      simp only [q] at h1
      exact fun M2 σ2 H2 s2 x2 e2 _ => h1 M2 σ2 H2 s2 x2 e2⟩
def dAsg (i : Nat) (d : Den) : DenS := fun ρ st => (d ρ st).toS ρ fun x st => .nx (ρ.set i (some x)) st
theorem asg_of {i : Nat} {D : Ends} {σ : L2.St} {H : Hp} (h : tS T W (dAsg i d) D σ H) : tAsg (tI T W d) (gName i) D σ H := by
  obtain ⟨M, ρ, st, s, e, h⟩ := h
  exact ⟨M, ρ, st, s, e, (PostS.bind (R := RV T) h e).mono fun v H1 ⟨M1, x, st1, s1, x1, r1, h1⟩ => h1 M1 _ H1 s1 .refl ((e.ex x1).set i r1)⟩
theorem psx_set (i : Nat) {x : Str} {pos' : Pos} (hN : X.N.Nodup) (he : PX X T W e d) (hi : X.N[i]? = some x := by rfl) (hx : Loc X.env.scope x := by first | exact Or.inl rfl | exact Or.inr rfl) (hs : swapsWith e (some (.Name x pos')) pos.line X.env = pure false := by rfl)
    (hf : X.fn x = true ∨ X.env.scope.names.lookup x = some .local := by first | exact .inl rfl | exact .inr rfl) : PSX X T W (.Assign [.Name x pos'] e pos) (dAsg i d) :=
  ps_imp (ps_set hN hi hx he hs hf) fun D σ H h => asg_of h
/-- x += e -/
def dAug (i : Nat) (d : Den) (f : OpD) : DenS := fun ρ st => match ρ[i]? with
  | some (some x) => (d ρ st).toS ρ fun y st => match f x y st with
    | some (z, st) => .nx (ρ.set i (some z)) st
    | none => .bad
  | _ => .bad
theorem psx_aug (i : Nat) {x : Str} {op : Operator} {f : OpD} {pos' : Pos} (hN : X.N.Nodup) (he : PX X T W e d) (ho : PIp X op (rD T f)) (hi : X.N[i]? = some x := by rfl) (hx : Loc X.env.scope x := by first | exact Or.inl rfl | exact Or.inr rfl)
    (hf : X.fn x = true ∨ X.env.scope.names.lookup x = some .local := by first | exact .inl rfl | exact .inr rfl) : PSX X T W (.AugAssign (.Name x pos') op e pos) (dAug i d f) :=
  ps_imp (ps_aug hN hi hx he ho hf) fun D σ H ⟨M, ρ, st, s, e, h⟩ => by
    unfold dAug at h
    cases q : ρ[i]? with
    | none => simp only [q] at h; exact h.elim
    | some o =>
      cases o with
      | none => simp only [q] at h; exact h.elim
      | some x =>
        simp only [q] at h
        obtain ⟨v, e1, r⟩ := e.val i x q
        refine ⟨v, e1, M, ρ, st, s, e, (PostS.bind (R := RV T) h e).mono fun w H1 ⟨M1, y, st1, s1, x1, r1, h1⟩ => ?_⟩
        refine ⟨M1, x, y, st1, s1, r.ex x1, r1, ?_⟩
        cases q2 : f x y st1 with
        | none => simp only [q2] at h1; exact h1.elim
        | some p =>
          obtain ⟨z, st2⟩ := p
          simp only [q2] at h1
          exact fun M2 zv H2 s2 x2 r2 => h1 M2 _ H2 s2 x2 (((e.ex x1).ex x2).set i r2)

end
/-! ### slots forgotten -/
def wipeE (ρ : DEnv) : List Nat → DEnv
  | [] => ρ
  | v :: vs => (wipeE ρ vs).set v none
section
variable {T : Tb} {M M' : Mu} {H : Hp} {st : DSto} {a : Addr} {vs ws : List V} {ρ : DEnv} {σ : L2.St}
theorem wipeE_len (ρ : DEnv) : ∀ vs, (wipeE ρ vs).length = ρ.length
  | [] => rfl
  | v :: vs => by unfold wipeE; rw [List.length_set, wipeE_len ρ vs]
theorem wipeE_some {i : Nat} {x : D} : ∀ {vs : List Nat}, (wipeE ρ vs)[i]? = some (some x) → ρ[i]? = some (some x) ∧ i ∉ vs
  | [], h => ⟨h, by simp⟩
  | v :: vs, h => by
    unfold wipeE at h
    by_cases hi : v = i
    · subst hi
      by_cases hv : v < (wipeE ρ vs).length
      · rw [List.getElem?_set_self hv] at h; cases h
      · rw [List.getElem?_eq_none (by simpa using hv)] at h; cases h
    · rw [List.getElem?_set_ne hi] at h
      obtain ⟨h1, h2⟩ := wipeE_some h
      exact ⟨h1, by simp only [List.mem_cons, not_or]; exact ⟨fun e => hi e.symm, h2⟩⟩
theorem wipe_get (σ : L2.St) (i : Nat) : ∀ vs : List Nat, (wipe σ vs)[i]? = if i ∈ vs then σ[i]?.map (fun _ => none) else σ[i]?
  | [] => by simp [wipe]
  | v :: vs => by
    unfold wipe
    by_cases hi : v = i
    · subst hi
      simp only [List.mem_cons, true_or, if_true]
      by_cases hv : v < σ.length
      · rw [List.getElem?_set_self (by rw [wipe_length]; exact hv), List.getElem?_eq_getElem hv]; rfl
      · rw [List.getElem?_eq_none (by simp [wipe_length]; omega), List.getElem?_eq_none (by omega)]; rfl
    · rw [List.getElem?_set_ne hi, wipe_get σ i vs]
      simp [Ne.symm hi]
theorem EOk.wipe (e : EOk T M H ρ σ) (vs : List Nat) : EOk T M H (wipeE ρ vs) (L2.wipe σ vs) := by
  refine ⟨by rw [wipeE_len, wipe_length]; exact e.len, fun i d h => ?_⟩
  obtain ⟨h1, h2⟩ := wipeE_some h
  obtain ⟨v, e1, r⟩ := e.val i d h1
  exact ⟨v, by rw [wipe_get, if_neg h2]; exact e1, r⟩
theorem wipe_same {σ σ2 : L2.St} {vs sl : List Nat} (hl : σ2.length = σ.length) (h : ∀ j, j ∉ sl → σ2[j]? = (L2.wipe σ vs)[j]?) (hs : ∀ j ∈ sl, j ∈ vs) : L2.wipe σ2 vs = L2.wipe σ vs := by
  apply List.ext_getElem?
  intro i
  rw [wipe_get, wipe_get]
  by_cases hi : i ∈ vs
  · rw [if_pos hi, if_pos hi]
    by_cases hv : i < σ.length
    · rw [List.getElem?_eq_getElem (by omega : i < σ2.length), List.getElem?_eq_getElem hv]; rfl
    · rw [List.getElem?_eq_none (by omega : σ2.length ≤ i), List.getElem?_eq_none (by omega)]
  · rw [if_neg hi, if_neg hi, h i fun z => hi (hs i z), wipe_get, if_neg hi]
theorem EOk.wipeOnly (e : EOk T M H ρ σ) (vs : List Nat) : EOk T M H (wipeE ρ vs) σ := by
  refine ⟨by rw [wipeE_len]; exact e.len, fun i d h => ?_⟩
  obtain ⟨h1, h2⟩ := wipeE_some h
  exact e.val i d h1
end
/-- the slots told by value; what did not change is as it was -/
def popE (lo : Nat) (st' : DSto) : DEnv → DEnv → Option DEnv
  | o :: os, p :: ps => if p = o then (popE lo st' os ps).map (o :: ·) else match p with
    | none => (popE lo st' os ps).map (none :: ·)
    | some d => (fzD lo st' d).bind fun e => (popE lo st' os ps).map (some e :: ·)
  | _, [] => some []
  | [], _ :: _ => none
section
variable {T : Tb} {M M' : Mu} {H H' : Hp} {st st' : DSto} {ρ ρ' ρ2 : DEnv} {σ σ' : L2.St}
theorem popE_len {lo : Nat} {st' : DSto} : ∀ {a b c : DEnv}, popE lo st' a b = some c → c.length = b.length
  | [], [], c, h => by cases h; rfl
  | _ :: _, [], c, h => by cases h; rfl
  | [], _ :: _, c, h => by cases h
  | o :: os, p :: ps, c, h => by
    unfold popE at h
    split at h
    · obtain ⟨d, h1, rfl⟩ := Option.map_eq_some_iff.mp h
      simp [popE_len h1]
    · cases p with
      | none =>
        obtain ⟨d, h1, rfl⟩ := Option.map_eq_some_iff.mp h
        simp [popE_len h1]
      | some x =>
        obtain ⟨e, _, h⟩ := Option.bind_eq_some_iff.mp h
        obtain ⟨d, h1, rfl⟩ := Option.map_eq_some_iff.mp h
        simp [popE_len h1]
theorem popE_get {lo : Nat} {st' : DSto} : ∀ {a b c : DEnv} {i : Nat} {d : D}, popE lo st' a b = some c → c[i]? = some (some d) → ∃ e, b[i]? = some (some e) ∧ ((a[i]? = some (some e) ∧ d = e) ∨ fzD lo st' e = some d)
  | [], [], c, i, d, h, q => by cases h; simp at q
  | _ :: _, [], c, i, d, h, q => by cases h; simp at q
  | [], _ :: _, c, i, d, h, q => by cases h
  | o :: os, p :: ps, c, i, d, h, q => by
    unfold popE at h
    split at h
    · rename_i hp
      obtain ⟨r, h1, rfl⟩ := Option.map_eq_some_iff.mp h
      cases i with
      | zero => simp at q; subst q; exact ⟨d, by rw [hp]; rfl, .inl ⟨rfl, rfl⟩⟩
      | succ i => simpa using popE_get h1 (by simpa using q)
    · cases p with
      | none =>
        obtain ⟨r, h1, rfl⟩ := Option.map_eq_some_iff.mp h
        cases i with
        | zero => simp at q
        | succ i => simpa using popE_get h1 (by simpa using q)
      | some x =>
        obtain ⟨e, he, h⟩ := Option.bind_eq_some_iff.mp h
        obtain ⟨r, h1, rfl⟩ := Option.map_eq_some_iff.mp h
        cases i with
        | zero => simp at q; subst q; exact ⟨x, rfl, .inr he⟩
        | succ i => simpa using popE_get h1 (by simpa using q)
theorem pop_eok (s0 : SOk T M H st) (e0 : EOk T M H ρ σ) (s : SOk T M' H' st') (x : Ex M H M' H') (e : EOk T M' H' ρ' σ') (h : popE st.length st' ρ ρ' = some ρ2) : EOk T M H' ρ2 σ' := by
  have c : Cutd st.length M' M := x.cutd s0.len
  refine ⟨by rw [popE_len h]; exact e.len, fun i d q => ?_⟩
  obtain ⟨y, e1, h1⟩ := popE_get h q
  obtain ⟨v, e2, r⟩ := e.val i y e1
  refine ⟨v, e2, ?_⟩
  rcases h1 with ⟨e3, rfl⟩ | h1
  · obtain ⟨v0, _, r0⟩ := e0.val i d e3
    exact fzD_ok s c (rs_low (Nat.le_of_eq s0.len) r0) r
  · exact fzD_ok s c h1 r
end
/-- a turn's end: the slots ws are forgotten; with pop, the store is cut to what stood at the turn's start -/
def turnE (pop : Bool) (ws : List Nat) (ρ : DEnv) (st : DSto) (ρ2 : DEnv) (st2 : DSto) : Option (DEnv × DSto) :=
  if pop = true then (popE st.length st2 ρ (wipeE ρ2 ws)).bind fun ρ3 => (popS st st2).map fun st3 => (ρ3, st3) else some (wipeE ρ2 ws, st2)
section
variable {T : Tb} {M M' : Mu} {H H' : Hp} {st st2 st3 : DSto} {ρ ρ2 ρ3 : DEnv} {σ σ' : L2.St} {pop : Bool} {ws : List Nat}
theorem turn_ok (s0 : SOk T M H st) (e0 : EOk T M H ρ σ) (s : SOk T M' H' st2) (x : Ex M H M' H') (e : EOk T M' H' ρ2 σ') (h : turnE pop ws ρ st ρ2 st2 = some (ρ3, st3)) : ∃ M3, SOk T M3 H' st3 ∧ Ex M H M3 H' ∧ EOk T M3 H' ρ3 σ' := by
  unfold turnE at h
  cases pop with
  | false =>
    cases h
    exact ⟨M', s, x, e.wipeOnly ws⟩
  | true =>
    rw [if_pos rfl] at h
    obtain ⟨ρ4, h1, h⟩ := Option.bind_eq_some_iff.mp h
    obtain ⟨st4, h2, h⟩ := Option.map_eq_some_iff.mp h
    cases h
    obtain ⟨p1, p2⟩ := pop_sok s0 s x h2
    exact ⟨M, p1, p2, pop_eok s0 e0 s x (e.wipeOnly ws) h1⟩
end

section
variable {X : Cx} {T : Tb} {W : WX} {pos : Pos} {st : Stmt} {rest : List Stmt} {a b : DenS} {e : Expr} {d : Den}
/-! ### while -/
def whileL (pop : Bool) (ws : List Nat) (c : DenT) (b : DenS) : Nat → DenS
  | 0 => fun _ _ => .bad
  | n + 1 => fun ρ st => (c ρ st).toS ρ fun k st1 => if k = true then (match b ρ st1 with
      | .nx ρ2 st2 => match turnE pop ws ρ st1 ρ2 st2 with
        | some (ρ3, st3) => whileL pop ws c b n ρ3 st3
        | none => .bad
      | .ct ρ2 st2 => match turnE pop ws ρ st1 ρ2 st2 with
        | some (ρ3, st3) => whileL pop ws c b n ρ3 st3
        | none => .bad
      | .bk ρ2 st2 => match turnE pop ws ρ st1 ρ2 st2 with
        | some (ρ3, st3) => .nx ρ3 st3
        | none => .bad
      | .rt d st2 => .rt d st2
      | .exc c fs ρ2 st2 => .exc c fs ρ2 st2
      | .bad => .bad) else .nx ρ st1
def dWhile (n : Nat) (pop : Bool) (ws : List Nat) (c : DenT) (b : DenS) : DenS := fun ρ st => whileL pop ws c b n (wipeE ρ ws) st
theorem psx_while (n : Nat) (pop : Bool) (ws : List Nat) {c : Expr} {body : List Stmt} {t : DenT} (hp : PassesOwn (model X.prog X.w) X.A X.env X.xe) (hc : PTX X T W c t) (hb : PSsX X T W body a) : PSX X T W (.While c body [] pos) (dWhile n pop ws t a) :=
  ps_imp (ps_while hp hc hb) fun D σ H ⟨M, ρ, st, s, e, h⟩ => by
    refine ⟨fun m σ' H' => ∃ M' ρ' st', SOk T M' H' st' ∧ EOk T M' H' ρ' σ' ∧ PostS T W D M' H' (whileL pop ws t a m ρ' st'), ⟨n, M, _, st, s, e.wipeOnly ws, h⟩, ?_⟩
    rintro m σ1 H1 ⟨M1, ρ1, st1, s1, e1, h1⟩
    cases m with
    | zero => exact h1.elim
    | succ m =>
      refine ⟨M1, ρ1, st1, s1, e1, (PostS.bind (R := RB) (f := _) h1 e1).mono fun k H2 ⟨M2, k', st2, s2, x2, r2, h2⟩ => ?_⟩
      obtain rfl : k' = k := r2
      have e2 := e1.ex x2
      cases k' with
      | false => exact h2 M2 σ1 H2 s2 .refl e2
      | true =>
        refine ⟨fun σ' H' => ∃ M' ρ' st', SOk T M' H' st' ∧ EOk T M' H' ρ' σ' ∧ PostS T W D M' H' (whileL pop ws t a m ρ' st'), fun σ' H' z => ⟨m, Nat.lt_succ_self m, z⟩, M2, ρ1, st2, s2, e2, ?_⟩
        simp only [if_true] at h2
        have nxt : ∀ ρ3 st3, PostS T W D M2 H2 (match turnE pop ws ρ1 st2 ρ3 st3 with | some (ρ4, st4) => whileL pop ws t a m ρ4 st4 | none => .bad) →
            ∀ M' σ' H', SOk T M' H' st3 → Ex M2 H2 M' H' → EOk T M' H' ρ3 σ' → ∃ M' ρ' st', SOk T M' H' st' ∧ EOk T M' H' ρ' σ' ∧ PostS T W D M' H' (whileL pop ws t a m ρ' st') := fun ρ3 st3 h M3 σ3 H3 s3 x3 e3 => by
          cases q : turnE pop ws ρ1 st2 ρ3 st3 with
          | none => simp only [q] at h; exact h.elim
          | some p =>
            obtain ⟨ρ4, st4⟩ := p
            simp only [q] at h
            obtain ⟨M4, s4, x4, e4⟩ := turn_ok s2 e2 s3 x3 e3 q
            exact ⟨M4, ρ4, st4, s4, e4, PostS.ex h x4⟩
        cases q : a ρ1 st2 with
        | nx ρ3 st3 => simp only [q] at h2; exact nxt ρ3 st3 h2
        | ct ρ3 st3 => simp only [q] at h2; exact nxt ρ3 st3 h2
        | bk ρ3 st3 =>
          simp only [q] at h2
          intro M3 σ3 H3 s3 x3 e3
          cases q2 : turnE pop ws ρ1 st2 ρ3 st3 with
          | none => simp only [q2] at h2; exact h2.elim
          | some p =>
            obtain ⟨ρ4, st4⟩ := p
            simp only [q2] at h2
            obtain ⟨M4, s4, x4, e4⟩ := turn_ok s2 e2 s3 x3 e3 q2
            exact h2 M4 _ H3 s4 x4 e4
        | rt d st3 => simp only [q] at h2; exact h2
        | exc c fs ρ3 st3 => simp only [q] at h2; exact h2
        | bad => simp only [q] at h2; exact h2

/-! ### what is walked -/
abbrev Chk := List (Nat × DObj)
def chkB (c : Chk) (st : DSto) : Bool := c.all fun p => decide (st[p.1]? = some p.2)
def IterOk (T : Tb) (M0 : Mu) (H0 : Hp) (p : List D × Chk) (J : It) : Prop :=
  ∀ (i : Nat) (M : Mu) (st : DSto) (H : Hp), Mo M0 H0 M H → SOk T M H st → chkB p.2 st = true →
    (∀ d, p.1[i]? = some d → J.go i H ∧ ∀ x H', J.yld i H x H' → SOk T M H' st ∧ Ex M H M H' ∧ RV T M H' d x) ∧ (p.1.length ≤ i → J.stop i H)
abbrev DenI := DEnv → DSto → DRes (List D × Chk)
def tIt (T : Tb) (W : WX) (d : DenI) : TI := fun σ H R => ∃ M ρ st, SOk T M H st ∧ EOk T M H ρ σ ∧ Post T (IterOk T) W σ M H (d ρ st) R
abbrev PIX (X : Cx) (T : Tb) (W : WX) (tg iter : Expr) (d : DenI) : Prop := PI X tg iter (tIt T W d)
theorem pi_imp {tg iter : Expr} {t t' : TI} (h : PI X tg iter t) (f : ∀ σ H Q, t' σ H Q → t σ H Q) : PI X tg iter t' := ⟨fun pins s σ H Q I q => h.run pins s σ H Q I (f σ H Q q)⟩
def forL (pop : Bool) (ws : List Nat) (c : Chk) (g : DenG) (b : DenS) : List D → DenS
  | [] => fun ρ st => if chkB c st = true then .nx ρ st else .bad
  | x :: xs => fun ρ st => if chkB c st = true then (match g x ρ st with
      | none => .bad
      | some (ρ1, st1) => match b ρ1 st1 with
        | .nx ρ2 st2 => match turnE pop ws ρ st ρ2 st2 with
          | some (ρ3, st3) => forL pop ws c g b xs ρ3 st3
          | none => .bad
        | .ct ρ2 st2 => match turnE pop ws ρ st ρ2 st2 with
          | some (ρ3, st3) => forL pop ws c g b xs ρ3 st3
          | none => .bad
        | .bk ρ2 st2 => match turnE pop ws ρ st ρ2 st2 with
          | some (ρ3, st3) => .nx ρ3 st3
          | none => .bad
        | .rt d st2 => .rt d st2
        | .exc c fs ρ2 st2 => .exc c fs ρ2 st2
        | .bad => .bad) else .bad
def dFor (pop : Bool) (ws : List Nat) (di : DenI) (g : DenG) (b : DenS) : DenS := fun ρ st => (di ρ st).toS ρ fun p st => forL pop ws p.2 g b p.1 (wipeE ρ ws) st
theorem psx_for (pop : Bool) (ws : List Nat) {tg iter : Expr} {body : List Stmt} {sl : List Nat} {di : DenI} {g : DenG} (hp : PassesOwn (model X.prog X.w) X.A X.env X.xe) (hc : X.calm = true) (hi : PIX X T W tg iter di) (hg : PGX X T sl tg g) (hb : PSsX X T W body a)
    (hs : ∀ x, foldedSetIterable iter X.env x = pure x := by intro _; rfl) : PSX X T W (.For tg iter body [] pos) (dFor pop ws di g a) :=
  ps_imp (ps_for hp hc hi hg hb hs) fun D σ H ⟨M, ρ, st, s, e, h⟩ => ⟨M, ρ, st, s, e, (PostS.bind (R := IterOk T) h e).mono fun J H1 ⟨M1, p, st1, s1, x1, r1, h1⟩ => by
    obtain ⟨src, chk⟩ := p
    refine ⟨fun i m σ' H' => m = src.length - i ∧ i ≤ src.length ∧ ∃ M' ρ' st', SOk T M' H' st' ∧ Ex M1 H1 M' H' ∧ EOk T M' H' ρ' σ' ∧ PostS T W D M' H' (forL pop ws chk g a (src.drop i) ρ' st'),
      ⟨_, rfl, Nat.zero_le _, M1, _, st1, s1, .refl, (e.ex x1).wipeOnly ws, h1⟩, ?_⟩
    rintro i m σ2 H2 ⟨rfl, hi2, M2, ρ2, st2, s2, x2, e2, h2⟩
    by_cases hlt : i < src.length
    · rw [List.drop_eq_getElem_cons hlt] at h2
      unfold forL at h2
      by_cases hk : chkB chk st2 = true
      · rw [if_pos hk] at h2
        obtain ⟨k1, _⟩ := r1 i M2 st2 H2 x2.mo s2 hk
        obtain ⟨go, yld⟩ := k1 src[i] (List.getElem?_eq_getElem hlt)
        refine .inr ⟨go, fun σ' H' => ∃ M' ρ' st', SOk T M' H' st' ∧ Ex M1 H1 M' H' ∧ EOk T M' H' ρ' σ' ∧ PostS T W D M' H' (forL pop ws chk g a (src.drop (i + 1)) ρ' st'), fun σ' H' z => ⟨src.length - (i + 1), by omega, rfl, hlt, z⟩, fun x H3 y => ?_⟩
        obtain ⟨s3, x3, r3⟩ := yld x H3 y
        have e3 := e2.ex x3
        have h2 := PostS.ex h2 x3
        refine ⟨M2, src[i], ρ2, st2, s3, r3, e3, ?_⟩
        cases q : g src[i] ρ2 st2 with
        | none => simp only [q] at h2; exact h2.elim
        | some pp =>
          obtain ⟨ρ4, st4⟩ := pp
          simp only [q] at h2
          intro M4 σ4 H4 s4 x4 e4 _
          refine ⟨M4, ρ4, st4, s4, e4, ?_⟩
          have nxt : ∀ ρ5 st5, PostS T W D M2 H3 (match turnE pop ws ρ2 st2 ρ5 st5 with | some (ρ6, st6) => forL pop ws chk g a (src.drop (i + 1)) ρ6 st6 | none => .bad) →
              ∀ M' σ' H', SOk T M' H' st5 → Ex M4 H4 M' H' → EOk T M' H' ρ5 σ' → ∃ M' ρ' st', SOk T M' H' st' ∧ Ex M1 H1 M' H' ∧ EOk T M' H' ρ' σ' ∧ PostS T W D M' H' (forL pop ws chk g a (src.drop (i + 1)) ρ' st') := fun ρ5 st5 h M5 σ5 H5 s5 x5 e5 => by
            cases q : turnE pop ws ρ2 st2 ρ5 st5 with
            | none => simp only [q] at h; exact h.elim
            | some p =>
              obtain ⟨ρ6, st6⟩ := p
              simp only [q] at h
              obtain ⟨M6, s6, x6, e6⟩ := turn_ok s3 e3 s5 (x4.trans x5) e5 q
              exact ⟨M6, ρ6, st6, s6, (x2.trans x3).trans x6, e6, PostS.ex h x6⟩
          cases q2 : a ρ4 st4 with
          | nx ρ5 st5 => simp only [q2] at h2; exact nxt ρ5 st5 h2
          | ct ρ5 st5 => simp only [q2] at h2; exact nxt ρ5 st5 h2
          | bk ρ5 st5 =>
            simp only [q2] at h2
            intro M5 σ5 H5 s5 x5 e5
            cases q3 : turnE pop ws ρ2 st2 ρ5 st5 with
            | none => simp only [q3] at h2; exact h2.elim
            | some p =>
              obtain ⟨ρ6, st6⟩ := p
              simp only [q3] at h2
              obtain ⟨M6, s6, x6, e6⟩ := turn_ok s3 e3 s5 (x4.trans x5) e5 q3
              exact h2 M6 _ H5 s6 x6 e6
          | rt d st5 => simp only [q2] at h2; exact PostS.ex h2 x4
          | exc c fs ρ5 st5 => simp only [q2] at h2; exact PostS.ex h2 x4
          | bad => simp only [q2] at h2; exact h2.elim
      · rw [if_neg hk] at h2; exact h2.elim
    · obtain rfl : i = src.length := by omega
      rw [List.drop_eq_nil_of_le (Nat.le_refl _)] at h2
      unfold forL at h2
      by_cases hk : chkB chk st2 = true
      · rw [if_pos hk] at h2
        exact .inl ⟨(r1 _ M2 st2 H2 x2.mo s2 hk).2 (Nat.le_refl _), h2 M2 σ2 H2 s2 .refl e2⟩
      · rw [if_neg hk] at h2; exact h2.elim⟩
end
end FV

set_option Elab.async false
set_option linter.all false
set_option maxRecDepth 100000
set_option maxHeartbeats 4000000
namespace FV
open PySem PySem.Spec PyProof.Rows L2

/-! ### lists and tuples walked -/
def dISeq (d : Den) : DenI := fun ρ st => (d ρ st).bind fun x st => match x with
  | .tup xs => .ok (xs, []) st
  | .lst xs => .ok (xs, []) st
  | .ref n => match st[n]? with
    | some (.lst xs) => .ok (xs, [(n, .lst xs)]) st
    | _ => .bad
  | .scr ns => .ok (ns.map D.int, []) st
  | _ => .bad
section
variable {X : Cx} {T : Tb} {W : WX} {pos : Pos} {tg e : Expr} {d : Den}
def iSeq (K : PySem.W.Frag) (tl : TE) : TI := fun σ H R => tl σ H fun x H1 => ∃ a, x = .ref a ∧ (((∃ xs, SqL K H1 a xs) ∧ R (Itl K a) H1) ∨ ((∃ xs, SqT K H1 a xs) ∧ R (Itt K a) H1))
theorem pi_seq {l : Expr} {tl : TE} (hl : PE X l tl) : PI X tg l (iSeq X.K tl) := by
  refine ⟨fun pins s σ H R I h => ?_⟩
  refine thn (hl.run pins s σ H _ I h) fun v s1 ⟨x, H1, I1, r1, q1⟩ => ?_
  obtain ⟨a, e, q⟩ := q1
  subst e
  cases r1
  rcases q with ⟨⟨xs, hq⟩, q⟩ | ⟨⟨xs, hq⟩, q⟩
  · obtain ⟨its, rv, p, hz⟩ := I1.list hq
    refine wpAny_pyIter_list p.isList ?_
    refine ⟨s1.heap.objs.size, [s1.heap.objs.size], _, _, H1, rfl, I1.kept (t' := s1.toks) fun b o e => Heap.get?_push_of_some _ e, turn_list a _, ⟨_, Heap.get?_push_size _ rfl, rfl, rfl⟩, fun b hb => ?_, q⟩
    have e : b = s1.heap.objs.size := by simpa using hb
    subst e
    exact I1.fpOk (Nat.le_refl _) (I1.hok.fresh (Nat.le_refl _))
  · obtain ⟨its, rv, p, hz⟩ := I1.tuple hq
    refine wpAny_pyIter_tuple (show s1.heap.IsTuple a its.toArray from p) ?_
    refine ⟨s1.heap.objs.size, [s1.heap.objs.size], _, _, H1, rfl, I1.kept (t' := s1.toks) fun b o e => Heap.get?_push_of_some _ e, turn_tuple a _, ⟨_, Heap.get?_push_size _ rfl, rfl, rfl⟩, fun b hb => ?_, q⟩
    have e : b = s1.heap.objs.size := by simpa using hb
    subst e
    exact I1.fpOk (Nat.le_refl _) (I1.hok.fresh (Nat.le_refl _))
end
section
variable {T : Tb} {M M0 : Mu} {H H0 : Hp} {st : DSto} {a : Addr}
theorem chk_one {n : Nat} {o : DObj} (h : chkB [(n, o)] st = true) : st[n]? = some o := by
  unfold chkB at h
  rw [List.all_cons, Bool.and_eq_true] at h
  exact of_decide_eq_true h.1
/-- the walk of a list whose items are known wherever it stands -/
theorem iterOk_lst {xs : List D} {chk : Chk} (f : ∀ (M : Mu) (st : DSto) (H : Hp), Mo M0 H0 M H → SOk T M H st → chkB chk st = true → ∃ vs, RVs T M H xs vs ∧ SqL T.K H a vs) : IterOk T M0 H0 (xs, chk) (Itl T.K a) := by
  intro i M st H x s k
  obtain ⟨vs, r, u⟩ := f M st H x s k
  refine ⟨fun d e => ?_, fun hl => ⟨vs, u, by rw [r.len]; exact hl⟩⟩
  obtain ⟨v, e1, r1⟩ := r.get e
  refine ⟨⟨vs, v, u, e1⟩, fun y H' hy => ?_⟩
  obtain ⟨rfl, hy⟩ := hy
  have e2 := hy vs (u)
  rw [e1] at e2; cases e2
  exact ⟨s, .refl, r1⟩
theorem iterOk_tup {xs : List D} {vs : List V} (f : Fr M0 a) (h : H0 a = some (.tup vs)) (r : RVs T M0 H0 xs vs) : IterOk T M0 H0 (xs, []) (Itt T.K a) := by
  intro i M st H x s k
  have h1 : SqT T.K H a vs := SqT.of (x.by_ _ _ h f).1
  have r1 := r.mo x
  refine ⟨fun d e => ?_, fun hl => ⟨vs, h1, by rw [r1.len]; exact hl⟩⟩
  obtain ⟨v, e1, r2⟩ := r1.get e
  refine ⟨⟨vs, v, h1, e1⟩, fun y H' hy => ?_⟩
  obtain ⟨rfl, hy⟩ := hy
  have e2 := hy vs h1
  rw [e1] at e2; cases e2
  exact ⟨s, .refl, r2⟩
end



section
variable {X : Cx} {T : Tb} {W : WX} {pos : Pos} {tg e : Expr} {d : Den}
theorem sqL_of {K : PySem.W.Frag} {M : Mu} {H : Hp} {xs : List D} {a : Addr} (h : RO T M H (.lst xs) a) : ∃ vs, RVs T M H xs vs ∧ SqL K H a vs := by
  obtain ⟨vs, e1, r⟩ := h
  exact ⟨vs, r, SqL.of e1⟩
theorem sqL_scr {M : Mu} {H : Hp} {xs : List V} {a : Addr} (h : (∃ o, Fr M a ∧ H a = some (.frz o (.lst xs))) ∨ SqK T.K a xs) : SqL T.K H a xs := by
  rcases h with ⟨o, _, e1⟩ | e1
  · exact .inl (.inr ⟨o, e1⟩)
  · exact .inr e1
theorem pix_seq (hF : Fits X T W) (h : PX X T W e d) : PIX X T W tg e (dISeq d) :=
  pi_imp (pi_seq h) fun σ H R ⟨M, ρ, st, s, e, h⟩ => ⟨M, ρ, st, s, e, (Post.bind (R := RV T) h).mono fun v H1 ⟨M1, x, st1, s1, x1, r1, h1⟩ => by
    have hK := hF.K
    cases x with
    | tup xs =>
      simp only [RV] at r1
      obtain ⟨a, vs, rfl, f, e1, rr⟩ := r1
      exact ⟨a, rfl, .inr ⟨⟨vs, SqT.of e1⟩, h1 M1 _ H1 s1 .refl (by rw [hK]; exact iterOk_tup f e1 rr)⟩⟩
    | lst xs =>
      simp only [RV] at r1
      obtain ⟨a, vs, rfl, f, e1, rr⟩ := r1
      exact ⟨a, rfl, .inl ⟨⟨vs, SqL.of e1⟩, h1 M1 _ H1 s1 .refl (by
        rw [hK]
        exact iterOk_lst fun M2 st2 H2 x2 s2 k2 => ⟨vs, rr.mo x2, SqL.of (x2.by_ _ _ e1 f).1⟩)⟩⟩
    | ref n =>
      simp only [RV] at r1
      obtain ⟨a, rfl, e1⟩ := r1
      cases q : st1[n]? with
      | none => simp only [q] at h1; exact h1.elim
      | some o =>
        have ro := s1.ro n o a q e1
        cases o with
        | lst xs =>
          simp only [q] at h1
          obtain ⟨vs, rr, sq⟩ := sqL_of (K := X.K) ro
          refine ⟨a, rfl, .inl ⟨⟨vs, sq⟩, h1 M1 _ H1 s1 .refl ?_⟩⟩
          rw [hK]
          exact iterOk_lst fun M2 st2 H2 x2 s2 k2 => sqL_of (s2.ro n _ a (chk_one k2) (x2.get _ _ e1))
        | ins c fs => simp only [q] at h1; exact h1.elim
        | dct t kvs => simp only [q] at h1; exact h1.elim
        | dead => simp only [q] at h1; exact h1.elim
    | scr ns =>
      simp only [RV] at r1
      obtain ⟨a, rfl, e1⟩ := r1
      refine ⟨a, rfl, .inl ⟨⟨_, by rw [hK]; exact sqL_scr e1⟩, h1 M1 _ H1 s1 .refl ?_⟩⟩
      rw [hK]
      exact iterOk_lst fun M2 st2 H2 x2 s2 k2 => ⟨_, rvs_ints ns, sqL_scr (M := M2) (e1.imp (fun ⟨o, f, z⟩ => ⟨o, (x2.by_ _ _ z f).2, (x2.by_ _ _ z f).1⟩) id)⟩
    | _ => exact h1.elim⟩
/-! ### ranges -/
def rngD (lo : Int) : Nat → List D
  | 0 => []
  | n + 1 => .int lo :: rngD (lo + 1) n
theorem rngD_len (n : Nat) : ∀ lo, (rngD lo n).length = n := by
  induction n with
  | zero => intro lo; rfl
  | succ n ih => intro lo; simp [rngD, ih]
theorem rngD_get : ∀ (n : Nat) (lo : Int) (i : Nat), i < n → (rngD lo n)[i]? = some (.int (lo + i))
  | 0, _, _, h => by omega
  | n + 1, lo, 0, _ => by simp [rngD]
  | n + 1, lo, i + 1, h => by
    show (rngD (lo + 1) n)[i]? = _
    rw [rngD_get n (lo + 1) i (by omega)]
    congr 2
    omega
theorem iterOk_rng {M0 : Mu} {H0 : Hp} (lo : Int) (n : Nat) : IterOk T M0 H0 (rngD lo n, []) (Itr lo n) := by
  intro i M st H x s k
  refine ⟨fun d e => ?_, fun hl => by rw [rngD_len] at hl; exact hl⟩
  have hi := (List.getElem?_eq_some_iff.mp e).1
  dsimp only at hi
  rw [rngD_len] at hi
  refine ⟨hi, fun y H' ⟨e1, e2⟩ => ?_⟩
  subst e1
  rw [rngD_get n lo i hi] at e
  cases e
  exact ⟨s, .refl, by simp [RV, e2]⟩
def dIRng1 (d : Den) : DenI := fun ρ st => (d ρ st).bind fun x st => match x with
  | .int j => if -(2 ^ 62) ≤ j ∧ j < 2 ^ 62 then .ok (rngD 0 j.toNat, []) st else .bad
  | _ => .bad
def dIRng2 (a b : Den) : DenI := fun ρ st => (a ρ st).bind fun x st => (b ρ st).bind fun y st => match x, y with
  | .int i, .int j => if -(2 ^ 62) ≤ i ∧ i < 2 ^ 62 ∧ -(2 ^ 62) ≤ j ∧ j < 2 ^ 62 then .ok (rngD i (j - i).toNat, []) st else .bad
  | _, _ => .bad
theorem pix_rng1 {a : Expr} {p : Pos} (hg : Gl X "range") (hm : X.mg "range" = none) (ha : PX X T W a d) (hs : starEach [a] X.env = [(false, eval a X.env)] := by rfl) : PIX X T W tg (.Call (.Name "range" p) [a] [] pos) (dIRng1 d) :=
  pi_imp (pi_range1 hg hm (pa_cons ha pa_nil hs) hs) fun σ H R ⟨M, ρ, st, s, e, h⟩ => ⟨M, ρ, st, s, e, (Post.bind (R := RV T) h).mono fun v H1 ⟨M1, x, st1, s1, x1, r1, h1⟩ => by
    cases x with
    | int j =>
      simp only [RV] at r1
      subst r1
      dsimp only at h1
      by_cases hz : -(2 ^ 62) ≤ j ∧ j < 2 ^ 62
      · rw [if_pos hz] at h1
        exact ⟨j, rfl, hz.1, hz.2, h1 M1 _ H1 s1 .refl (iterOk_rng 0 j.toNat)⟩
      · rw [if_neg hz] at h1; exact h1.elim
    | _ => exact h1.elim⟩
theorem pix_rng2 {a b : Expr} {da db : Den} {p : Pos} (hg : Gl X "range") (hm : X.mg "range" = none) (ha : PX X T W a da) (hb : PX X T W b db) (hs : starEach [a, b] X.env = [(false, eval a X.env), (false, eval b X.env)] := by rfl) (hs2 : starEach [b] X.env = [(false, eval b X.env)] := by rfl) :
    PIX X T W tg (.Call (.Name "range" p) [a, b] [] pos) (dIRng2 da db) :=
  pi_imp (pi_range2 hg hm (pa_cons ha (pa_cons hb pa_nil hs2) (by rw [hs, hs2])) hs hs2) fun σ H R ⟨M, ρ, st, s, e, h⟩ => ⟨M, ρ, st, s, e, (Post.bind (R := RV T) h).mono fun v H1 ⟨M1, x, st1, s1, x1, r1, h1⟩ => by
    refine ⟨M1, ρ, st1, s1, e.ex x1, (Post.bind (R := RV T) h1).mono fun u H2 ⟨M2, y, st2, s2, x2, r2, h2⟩ => ?_⟩
    have r1 := r1.ex x2
    cases x with
    | int i =>
      cases y with
      | int j =>
        simp only [RV] at r1 r2
        subst r1 r2
        dsimp only at h2
        by_cases hz : -(2 ^ 62) ≤ i ∧ i < 2 ^ 62 ∧ -(2 ^ 62) ≤ j ∧ j < 2 ^ 62
        · rw [if_pos hz] at h2
          exact ⟨i, j, rfl, hz, h2 M2 _ H2 s2 .refl (iterOk_rng i (j - i).toNat)⟩
        · rw [if_neg hz] at h2; exact h2.elim
      | _ => exact h2.elim
    | _ => exact h2.elim⟩
end

/-! ### list comprehensions -/
def compL (c : Chk) (vs : List Nat) (g : DenG) (step : DEnv → List D → DSto → Option (List D × DSto)) (ρ : DEnv) : List D → List D → DSto → Option (List D × DSto)
  | [], acc, st => if chkB c st = true then some (acc, st) else none
  | x :: xs, acc, st => if chkB c st = true then (match g x (wipeE ρ vs) st with
      | none => none
      | some (ρ1, st1) => match step ρ1 acc st1 with
        | none => none
        | some (acc2, st2) => compL c vs g step ρ xs acc2 st2) else none
def stepE (t : DenT) (e : Den) (ρ : DEnv) (acc : List D) (st : DSto) : Option (List D × DSto) := match t ρ st with
  | .ok true st2 => match e ρ st2 with
    | .ok y st3 => if acc.length < sizeLine then some (acc ++ [y], st3) else none
    | _ => none
  | .ok false st2 => some (acc, st2)
  | _ => none
def stepC (t : DenT) (di : DenI) (vs : List Nat) (g : DenG) (step : DEnv → List D → DSto → Option (List D × DSto)) (ρ : DEnv) (acc : List D) (st : DSto) : Option (List D × DSto) := match t ρ st with
  | .ok true st2 => match di ρ st2 with
    | .ok (src, chk) st3 => compL chk vs g step ρ src acc st3
    | _ => none
  | .ok false st2 => some (acc, st2)
  | _ => none
def dYes : DenT := fun _ st => .ok true st
abbrev WN : WX := fun _ _ _ _ => False
section
variable {T : Tb} {M M' M0 M1 : Mu} {H H' H0 H1 : Hp} {st st1 : DSto} {dd : Addr} {vs ws : List V} {ρ : DEnv} {σ : L2.St}
/-- a list beside the store grows -/
theorem mo_side {o : HO} (hd : dd ∈ M.x) : Mo M H M (upd H dd o) := by
  refine .of (fun _ _ h => h) fun b u h k => ⟨?_, k⟩
  rw [upd_ne]; exact h
  rintro rfl; exact k.2 hd
theorem sok_side {o : HO} (s : SOk T M H st) (hd : dd ∈ M.x) : SOk T M (upd H dd o) st := by
  refine ⟨s.len, fun i ob b e1 e2 => (s.ro i ob b e1 e2).mo (mo_side hd) fun u h => ?_, s.inj, s.dis, fun b hb => upd_some (s.bld b hb)⟩
  rw [upd_ne]; exact h
  rintro rfl; exact s.dis _ (List.mem_of_getElem? e2) hd
theorem mo_build {o : HO} (hp : H dd = none) : Mo M H (M.build dd) (upd H dd o) := .of (fun _ _ h => h) fun a u h k => ⟨by rw [upd_ne (ne_of_none h hp)]; exact h, k.1, fun z => by
    rcases List.mem_cons.mp z with z | z
    · rw [z, hp] at h; cases h
    · exact k.2 z⟩
/-- the list's making -/
theorem sok_build {o : HO} (s : SOk T M H st) (hp : H dd = none) : SOk T (M.build dd) (upd H dd o) st := by
  have f := s.fresh hp
  refine ⟨s.len, fun i ob b e1 e2 => (s.ro i ob b e1 e2).mo (mo_build hp) fun u z => by rw [upd_ne (ne_of_none z hp)]; exact z, s.inj, fun a ha z => ?_, fun b hb => ?_⟩
  · rcases List.mem_cons.mp z with z | z
    · exact f.1 (z ▸ ha)
    · exact s.dis a ha z
  · rcases List.mem_cons.mp hb with z | z
    · subst z; exact ⟨_, upd_same⟩
    · exact upd_some (s.bld b z)
/-- what a comprehension's list and store look like between two turns; dd was made behind (M1, H1) -/
structure CompIn (T : Tb) (M1 : Mu) (H1 : Hp) (dd : Addr) (M : Mu) (acc : List D) (st : DSto) (H : Hp) (vs : List V) : Prop where
  s : SOk T M H st
  h0 : H1 dd = none
  x : Ex M1 H1 ⟨M.l, M1.x⟩ H
  bx : M.x = dd :: M1.x
  d : H dd = some (.lst vs)
  r : RVs T M H acc vs
theorem CompIn.start (s1 : SOk T M1 H1 st1) (h0 : H1 dd = none) : CompIn T M1 H1 dd (M1.build dd) [] st1 (upd H1 dd (.lst [])) [] :=
  ⟨sok_build s1 h0, h0, .of ⟨[], by simp⟩ rfl (fun a o h _ => by rw [upd_ne (ne_of_none h h0)]; exact h) fun a h n => absurd h n, rfl, upd_same, by simp [RVs]⟩
theorem CompIn.ix {acc : List D} (c : CompIn T M1 H1 dd M acc st H vs) : dd ∈ M.x := by rw [c.bx]; exact List.mem_cons_self
/-- the elements' code runs -/
theorem CompIn.go {acc : List D} {st' : DSto} (c : CompIn T M1 H1 dd M acc st H vs) (s' : SOk T M' H' st') (x : Ex M H M' H') : CompIn T M1 H1 dd M' acc st' H' vs := by
  have nd : dd ∉ M.l := fun z => c.s.dis dd z c.ix
  obtain ⟨n1, e1⟩ := c.x.pre
  obtain ⟨n2, e2⟩ := x.pre
  have out : ∀ a o, H1 a = some o → a ∉ M1.l → a ∉ M.l := fun a o h f z => by
    have := (c.x.nw a z f).1
    rw [h] at this; cases this
  refine ⟨s', c.h0, ⟨⟨n1 ++ n2, ?_⟩, rfl, fun a o h f => (c.x.kp a o h f).then fun u e => x.kp a u e (out a o h f), fun a o h f z => x.bx a o (c.x.bx a o h f z) (out a o h f) (by rw [c.bx]; exact List.mem_cons_of_mem _ z), fun a h n => ?_⟩, by rw [x.x, c.bx], x.bx dd _ c.d nd c.ix, c.r.ex x⟩
  · show M'.l = _
    rw [e2, show M.l = M1.l ++ n1 from e1, List.append_assoc]
  · by_cases z : a ∈ M.l
    · exact c.x.nw a z n
    · obtain ⟨y1, y2⟩ := x.nw a h z
      refine ⟨?_, fun q => y2 (by rw [c.bx]; exact List.mem_cons_of_mem _ q)⟩
      cases q : H1 a with
      | none => rfl
      | some o =>
        obtain ⟨u, this⟩ := (c.x.kp a o q n).some
        rw [y1] at this; cases this
/-- an item more -/
theorem CompIn.push {acc : List D} {y : D} {v : V} (c : CompIn T M1 H1 dd M acc st H vs) (r : RV T M H y v) : CompIn T M1 H1 dd M (acc ++ [y]) st (upd H dd (.lst (vs ++ [v]))) (vs ++ [v]) :=
  ⟨sok_side c.s c.ix, c.h0, ⟨c.x.pre, rfl, fun a o h f => by rw [upd_ne (ne_of_none h c.h0)]; exact c.x.kp a o h f, fun a o h f z => by rw [upd_ne (ne_of_none h c.h0)]; exact c.x.bx a o h f z, c.x.nw⟩, c.bx, upd_same, (c.r.app (RVs.one r)).mo (mo_side c.ix)⟩
/-- the end: by value -/
theorem CompIn.endV {acc : List D} (s1 : SOk T M1 H1 st1) (c : CompIn T M1 H1 dd M acc st H vs) :
    SOk T ⟨M.l, M1.x⟩ H st ∧ Ex M1 H1 ⟨M.l, M1.x⟩ H ∧ RV T ⟨M.l, M1.x⟩ H (.lst acc) (.ref dd) := by
  have hx := c.bx
  have mo : Mo M H ⟨M.l, M1.x⟩ H := .of (fun _ _ h => h) fun a u h k => ⟨h, k.1, fun z => k.2 (by rw [hx]; exact List.mem_cons_of_mem _ z)⟩
  have f := s1.fresh c.h0
  refine ⟨⟨c.s.len, fun i ob b e1 e2 => (c.s.ro i ob b e1 e2).mo mo fun u z => z, c.s.inj, fun a ha z => c.s.dis a ha (by rw [hx]; exact List.mem_cons_of_mem _ z), fun b hb => c.s.bld b (by rw [hx]; exact List.mem_cons_of_mem _ hb)⟩, c.x, ?_⟩
  simp only [RV]
  exact ⟨dd, vs, rfl, ⟨fun z => c.s.dis dd z c.ix, f.2⟩, c.d, c.r.mo mo⟩
/-- .. entering the store -/
theorem CompIn.endR {acc : List D} (s1 : SOk T M1 H1 st1) (c : CompIn T M1 H1 dd M acc st H vs) :
    SOk T ⟨M.l ++ [dd], M1.x⟩ H (st ++ [.lst acc]) ∧ Ex M1 H1 ⟨M.l ++ [dd], M1.x⟩ H ∧ RV T ⟨M.l ++ [dd], M1.x⟩ H (.ref st.length) (.ref dd) := by
  have hx := c.bx
  have mo : Mo M H ⟨M.l ++ [dd], M1.x⟩ H := .of (fun n a h => by
      show (M.l ++ [dd])[n]? = _
      rw [List.getElem?_append_left (List.getElem?_eq_some_iff.mp h).1]; exact h) fun a u h k => ⟨h, fun z => by
      rcases List.mem_append.mp z with z | z
      · exact k.1 z
      · exact k.2 (by rw [hx, List.mem_singleton.mp z]; exact List.mem_cons_self), fun z => k.2 (by rw [hx]; exact List.mem_cons_of_mem _ z)⟩
  have f := s1.fresh c.h0
  obtain ⟨v1, v2, _⟩ := c.endV s1
  refine ⟨sok_snoc (x := M1.x) c.s mo (fun _ _ _ h => h) (fun z => c.s.dis dd z c.ix) (fun b hb => ⟨by rw [hx]; exact List.mem_cons_of_mem _ hb, fun z => f.2 (z ▸ hb)⟩) v1.bld ⟨vs, c.d, c.r.mo mo⟩, ⟨?_, rfl, v2.kp, v2.bx, fun a h n => ?_⟩, ?_⟩
  · obtain ⟨ν, e⟩ := c.x.pre
    exact ⟨ν ++ [dd], by show M.l ++ [dd] = _; rw [show M.l = M1.l ++ ν from e, List.append_assoc]⟩
  · rcases List.mem_append.mp h with z | z
    · exact v2.nw a z n
    · rw [List.mem_singleton.mp z]; exact ⟨c.h0, f.2⟩
  · simp only [RV]
    exact ⟨dd, rfl, by show (M.l ++ [dd])[st.length]? = _; rw [← c.s.len]; simp⟩
end
section
variable {X : Cx} {T : Tb} {W : WX} {pos : Pos}
abbrev BlkAll (X : Cx) (scope : Scope) (p : Cx → Prop) : Prop := ∀ (s : Shared) (H : Hp) (C : Addr) (cl : List (Str × Addr)) (fp : List Addr), p (X.blk s H scope (compEnvC scope cl C X.env) fp)
/-- the reading's turn of the innermost element -/
theorem step_elt {t : DenT} {e : Den} {ρ : DEnv} {σ : L2.St} {dd : Addr} {acc : List D} {M1 M : Mu} {H1 H : Hp} {st : DSto} {vs : List V} {r : List D × DSto} {Nx : Hp → Prop}
    (c : CompIn T M1 H1 dd M acc st H vs) (eo : EOk T M H ρ σ) (h : stepE t e ρ acc st = some r) (hNx : ∀ H' M' vs', Mo M H M' H' → CompIn T M1 H1 dd M' r.1 r.2 H' vs' → Nx H') :
    tT T WN t σ H fun b H3 => if b = true then tI T WN e σ H3 fun y H4 => ∃ acc, H4 dd = some (.lst acc) ∧ acc.length < sizeLine ∧ Nx (upd H4 dd (.lst (acc ++ [y]))) else Nx H3 := by
  refine ⟨M, ρ, st, c.s, eo, ?_⟩
  unfold stepE at h
  cases q : t ρ st with
  | exc c fs st2 => rw [q] at h; cases h
  | bad => rw [q] at h; cases h
  | ok b st2 =>
    rw [q] at h
    intro M2 b' H2 s2 x2 rb
    obtain rfl : b = b' := rb
    have c2 := c.go s2 x2
    cases b with
    | false =>
      cases h
      exact hNx H2 M2 vs x2.mo c2
    | true =>
      refine ⟨M2, ρ, st2, s2, eo.ex x2, ?_⟩
      dsimp only at h
      cases q2 : e ρ st2 with
      | exc c fs st3 => rw [q2] at h; cases h
      | bad => rw [q2] at h; cases h
      | ok y st3 =>
        rw [q2] at h
        dsimp only at h
        by_cases hz : acc.length < sizeLine
        · rw [if_pos hz] at h
          cases h
          intro M3 v H3 s3 x3 r3
          have c3 := c2.go s3 x3
          exact ⟨vs, c3.d, by rw [c3.r.len]; exact hz, hNx _ M3 (vs ++ [v]) ((x2.mo.trans x3.mo).trans (mo_side c3.ix)) (c3.push r3)⟩
        · rw [if_neg hz] at h; cases h
theorem ptsx_nil : PTs X [] (tT T W dYes) := ⟨fun pins s σ H Q I ⟨M, ρ, st, so, e, h⟩ => pts_nil.run pins s σ H Q I (h M true H so .refl rfl)⟩
theorem ptsx_one {c : Expr} {t : DenT} (h : PTX X T W c t) : PTs X [c] (tT T W t) := pts_one h
/-- how a comprehension's end is met: by value, or entering the store -/
def lcEnd (v : Bool) (acc : List D) (st : DSto) : DRes D := if v = true then .ok (.lst acc) st else .ok (.ref st.length) (st ++ [.lst acc])
def dLcB (v : Bool) (di : DenI) (vs : List Nat) (g : DenG) (step : DEnv → List D → DSto → Option (List D × DSto)) : Den := fun ρ st => (di ρ st).bind fun p st1 => match compL p.2 vs g step ρ p.1 [] st1 with
  | some (acc, st2) => lcEnd v acc st2
  | none => .bad
theorem comp_end {v : Bool} {M1 M : Mu} {H1 H : Hp} {dd : Addr} {acc : List D} {st st1 : DSto} {vs : List V} {σ : L2.St} {Q : VK} (s1 : SOk T M1 H1 st1) (c : CompIn T M1 H1 dd M acc st H vs) (h : Post T (RV T) W σ M1 H1 (lcEnd v acc st) Q) : Q (.ref dd) H := by
  cases v with
  | true => obtain ⟨a, b, d⟩ := c.endV s1; exact h _ _ H a b d
  | false => obtain ⟨a, b, d⟩ := c.endR s1; exact h _ _ H a b d
/-- the reading of a comprehension with one clause -/
theorem tLc_of {v : Bool} {di : DenI} {vs sl : List Nat} {g : DenG} {t : DenT} {e : Den} (hs : ∀ j ∈ sl, j ∈ vs) {σ : L2.St} {H : Hp} {Q : VK} (h : tI T W (dLcB v di vs g (stepE t e)) σ H Q) :
    tLc (tIt T W di) (tG T sl g) (tT T WN t) (tI T WN e) vs σ H Q := by
  obtain ⟨M, ρ, st, s, eo, h⟩ := h
  refine ⟨M, ρ, st, s, eo, (Post.bind (R := IterOk T) h).mono fun J H1 ⟨M1, p, st1, s1, x1, r1, h1⟩ dd hD => ?_⟩
  obtain ⟨src, chk⟩ := p
  dsimp only at h1
  cases q : compL chk vs g (stepE t e) ρ src [] st1 with
  | none => rw [q] at h1; exact h1.elim
  | some r =>
    obtain ⟨accF, stF⟩ := r
    rw [q] at h1
    have e1 := eo.ex x1
    have m1 : Mo M1 H1 (M1.build dd) (upd H1 dd (.lst [])) := mo_build hD
    refine ⟨fun i m H' => m = src.length - i ∧ i ≤ src.length ∧ ∃ M' acc st' ws, Mo M1 H1 M' H' ∧ CompIn T M1 H1 dd M' acc st' H' ws ∧ compL chk vs g (stepE t e) ρ (src.drop i) acc st' = some (accF, stF),
      ⟨_, rfl, Nat.zero_le _, _, [], st1, [], m1, .start s1 hD, q⟩, ?_⟩
    rintro i m H2 ⟨rfl, hi2, M2, acc, st2, ws, x2, C, hc⟩
    by_cases hlt : i < src.length
    · rw [List.drop_eq_getElem_cons hlt] at hc
      unfold compL at hc
      by_cases hk : chkB chk st2 = true
      · rw [if_pos hk] at hc
        obtain ⟨k1, _⟩ := r1 i M2 st2 H2 x2 C.s hk
        obtain ⟨go, yld⟩ := k1 src[i] (List.getElem?_eq_getElem hlt)
        refine .inr ⟨go, fun H' => ∃ M' acc st' ws, Mo M1 H1 M' H' ∧ CompIn T M1 H1 dd M' acc st' H' ws ∧ compL chk vs g (stepE t e) ρ (src.drop (i + 1)) acc st' = some (accF, stF), fun H' z => ⟨src.length - (i + 1), by omega, rfl, hlt, z⟩, fun x H3 y => ?_⟩
        obtain ⟨s3, x3, r3⟩ := yld x H3 y
        have e3 : EOk T M2 H3 (wipeE ρ vs) (L2.wipe σ vs) := ((e1.mo x2).ex x3).wipe vs
        refine ⟨M2, src[i], wipeE ρ vs, st2, s3, r3, e3, ?_⟩
        cases qg : g src[i] (wipeE ρ vs) st2 with
        | none => rw [qg] at hc; cases hc
        | some pp =>
          obtain ⟨ρ4, st4⟩ := pp
          rw [qg] at hc
          dsimp only at hc
          cases qs : stepE t e ρ4 acc st4 with
          | none => rw [qs] at hc; cases hc
          | some rr =>
            rw [qs] at hc
            intro M4 σ4 H4 s4 x4 e4 k4
            refine ⟨wipe_same (by rw [k4.1, wipe_length]) k4.2 hs, ?_⟩
            have xx := x3.trans x4
            exact step_elt (C.go s4 xx) e4 qs fun H' M' vs' mo z => ⟨M', rr.1, rr.2, vs', (x2.trans xx.mo).trans mo, z, hc⟩
      · rw [if_neg hk] at hc; cases hc
    · obtain rfl : i = src.length := by omega
      rw [List.drop_eq_nil_of_le (Nat.le_refl _)] at hc
      unfold compL at hc
      by_cases hk : chkB chk st2 = true
      · rw [if_pos hk] at hc
        have stp := (r1 _ M2 st2 H2 x2 C.s hk).2 (Nat.le_refl _)
        cases hc
        exact .inl ⟨stp, comp_end s1 C h1⟩
      · rw [if_neg hk] at hc; cases hc
theorem px_lc (v : Bool) {elt tg iter : Expr} {ifs : List Expr} {scope : Scope} {own : List (Str × Nat)} {sl : List Nat} {di : DenI} {g : DenG} {t : DenT} {e : Den} (hc : X.calm = true) (hN : X.N.Nodup) (hi : PIX X T W tg iter di) (ok : BlkOk X.N X.env.scope scope own) (hsl : ∀ j ∈ sl, j ∈ own.map (·.2))
    (hg : BlkAll X scope fun Y => PGX Y T sl tg g) (ht : BlkAll X scope fun Y => PTs Y ifs (tT T WN t)) (he : BlkAll X scope fun Y => PX Y T WN elt e) (hs : ∀ x, foldedSetIterable iter X.env x = pure x := by intro _; rfl) :
    PX X T W (.ListComp elt [⟨tg, iter, ifs, 0⟩] scope pos) (dLcB v di (own.map (·.2)) g (stepE t e)) :=
  pe_imp (pe_lc hc hN hi ok hg ht he hs) fun σ H Q h => tLc_of hsl h
theorem psx_setLc (v : Bool) (i : Nat) {y : Str} {py spos : Pos} {elt tg iter : Expr} {ifs : List Expr} {scope : Scope} {own : List (Str × Nat)} {sl : List Nat} {di : DenI} {g : DenG} {t : DenT} {e : Den} (hc : X.calm = true) (hN : X.N.Nodup) (hi : PIX X T W tg iter di) (ok : BlkOk X.N X.env.scope scope own) (hsl : ∀ j ∈ sl, j ∈ own.map (·.2))
    (hg : BlkAll X scope fun Y => PGX Y T sl tg g) (ht : BlkAll X scope fun Y => PTs Y ifs (tT T WN t)) (he : BlkAll X scope fun Y => PX Y T WN elt e) (hy : X.N[i]? = some y := by rfl) (hyl : X.env.scope.names.lookup y = some .local := by rfl)
    (hsw : swapsWith (.ListComp elt [⟨tg, iter, ifs, 0⟩] scope pos) (some (.Name y py)) spos.line X.env = pure true := by exact sw_true rfl rfl rfl (by decide +kernel)) (hs : ∀ x, foldedSetIterable iter X.env x = pure x := by intro _; rfl) :
    PSX X T W (.Assign [.Name y py] (.ListComp elt [⟨tg, iter, ifs, 0⟩] scope pos) spos) (dAsg i (dLcB v di (own.map (·.2)) g (stepE t e))) :=
  ps_imp (ps_setLc hc hN hy hyl hsw hi ok hg ht he hs) fun D σ H h => by
    obtain ⟨M, ρ, st, s, eo, h⟩ := h
    exact tLc_of hsl ⟨M, ρ, st, s, eo, (PostS.bind (R := RV T) h eo).mono fun v H1 ⟨M1, x, st1, s1, x1, r1, h1⟩ => h1 M1 _ H1 s1 .refl ((eo.ex x1).set i r1)⟩
/-- two clauses -/
theorem tLc2_of {v : Bool} {di di1 : DenI} {vs sl vs1 sl1 : List Nat} {g g1 : DenG} {t t1 : DenT} {e : Den} (hs : ∀ j ∈ sl, j ∈ vs) (hs1 : ∀ j ∈ sl1, j ∈ vs1) {σ : L2.St} {H : Hp} {Q : VK} (h : tI T W (dLcB v di vs g (stepC t di1 vs1 g1 (stepE t1 e))) σ H Q) :
    tLc2 (tIt T W di) (tG T sl g) (tT T WN t) (tIt T WN di1) (tG T sl1 g1) (tT T WN t1) (tI T WN e) vs vs1 σ H Q := by
  obtain ⟨M, ρ, st, s, eo, h⟩ := h
  refine ⟨M, ρ, st, s, eo, (Post.bind (R := IterOk T) h).mono fun J H1 ⟨M1, p, st1, s1, x1, r1, h1⟩ dd hD => ?_⟩
  obtain ⟨src, chk⟩ := p
  dsimp only at h1
  cases q : compL chk vs g (stepC t di1 vs1 g1 (stepE t1 e)) ρ src [] st1 with
  | none => rw [q] at h1; exact h1.elim
  | some r =>
    obtain ⟨accF, stF⟩ := r
    rw [q] at h1
    have e1 := eo.ex x1
    have m1 : Mo M1 H1 (M1.build dd) (upd H1 dd (.lst [])) := mo_build hD
    refine ⟨fun i m H' => m = src.length - i ∧ i ≤ src.length ∧ ∃ M' acc st' ws, Mo M1 H1 M' H' ∧ CompIn T M1 H1 dd M' acc st' H' ws ∧ compL chk vs g (stepC t di1 vs1 g1 (stepE t1 e)) ρ (src.drop i) acc st' = some (accF, stF),
      ⟨_, rfl, Nat.zero_le _, _, [], st1, [], m1, .start s1 hD, q⟩, ?_⟩
    rintro i m H2 ⟨rfl, hi2, M2, acc, st2, ws, x2, C, hc⟩
    by_cases hlt : i < src.length
    · rw [List.drop_eq_getElem_cons hlt] at hc
      unfold compL at hc
      by_cases hk : chkB chk st2 = true
      · rw [if_pos hk] at hc
        obtain ⟨k1, _⟩ := r1 i M2 st2 H2 x2 C.s hk
        obtain ⟨go, yld⟩ := k1 src[i] (List.getElem?_eq_getElem hlt)
        refine .inr ⟨go, fun H' => ∃ M' acc st' ws, Mo M1 H1 M' H' ∧ CompIn T M1 H1 dd M' acc st' H' ws ∧ compL chk vs g (stepC t di1 vs1 g1 (stepE t1 e)) ρ (src.drop (i + 1)) acc st' = some (accF, stF), fun H' z => ⟨src.length - (i + 1), by omega, rfl, hlt, z⟩, fun x H3 y => ?_⟩
        obtain ⟨s3, x3, r3⟩ := yld x H3 y
        have e3 : EOk T M2 H3 (wipeE ρ vs) (L2.wipe σ vs) := ((e1.mo x2).ex x3).wipe vs
        refine ⟨M2, src[i], wipeE ρ vs, st2, s3, r3, e3, ?_⟩
        cases qg : g src[i] (wipeE ρ vs) st2 with
        | none => rw [qg] at hc; cases hc
        | some pp =>
          obtain ⟨ρ4, st4⟩ := pp
          rw [qg] at hc
          dsimp only at hc
          cases qs : stepC t di1 vs1 g1 (stepE t1 e) ρ4 acc st4 with
          | none => rw [qs] at hc; cases hc
          | some rr =>
            rw [qs] at hc
            intro M4 σ4 H4 s4 x4 e4 k4
            refine ⟨wipe_same (by rw [k4.1, wipe_length]) k4.2 hs, ?_⟩
            have xx := x3.trans x4
            have C4 := C.go s4 xx
            have x40 := x2.trans xx.mo
            refine ⟨M4, ρ4, st4, s4, e4, ?_⟩
            unfold stepC at qs
            cases qt : t ρ4 st4 with
            | exc c fs st5 => rw [qt] at qs; cases qs
            | bad => rw [qt] at qs; cases qs
            | ok b st5 =>
              rw [qt] at qs
              intro M5 b' H5 s5 x5 rb
              obtain rfl : b = b' := rb
              have C5 := C4.go s5 x5
              cases b with
              | false =>
                cases qs
                exact ⟨M5, acc, st5, ws, x40.trans x5.mo, C5, hc⟩
              | true =>
                dsimp only at qs
                refine ⟨M5, ρ4, st5, s5, e4.ex x5, ?_⟩
                cases qd : di1 ρ4 st5 with
                | exc c fs st6 => rw [qd] at qs; cases qs
                | bad => rw [qd] at qs; cases qs
                | ok p6 st6 =>
                  obtain ⟨src1, chk1⟩ := p6
                  rw [qd] at qs
                  dsimp only at qs
                  intro M6 J1 H6 s6 x6 r6
                  have C6 := C5.go s6 x6
                  have e6 := (e4.ex x5).ex x6
                  have x60 := (x40.trans x5.mo).trans x6.mo
                  refine ⟨fun j m H' => m = src1.length - j ∧ j ≤ src1.length ∧ ∃ M' acc' st' vs', Mo M6 H6 M' H' ∧ CompIn T M1 H1 dd M' acc' st' H' vs' ∧ compL chk1 vs1 g1 (stepE t1 e) ρ4 (src1.drop j) acc' st' = some rr,
                    ⟨_, rfl, Nat.zero_le _, M6, acc, st6, ws, .refl, C6, qs⟩, ?_⟩
                  rintro j m H7 ⟨rfl, hj, M7, acc7, st7, ws7, x07, C7, hc7⟩
                  have e7 := e6.mo x07
                  by_cases hlj : j < src1.length
                  · rw [List.drop_eq_getElem_cons hlj] at hc7
                    unfold compL at hc7
                    by_cases hk7 : chkB chk1 st7 = true
                    · rw [if_pos hk7] at hc7
                      obtain ⟨k7, _⟩ := r6 j M7 st7 H7 x07 C7.s hk7
                      obtain ⟨go7, yld7⟩ := k7 src1[j] (List.getElem?_eq_getElem hlj)
                      refine .inr ⟨go7, fun H' => ∃ M' acc' st' vs', Mo M6 H6 M' H' ∧ CompIn T M1 H1 dd M' acc' st' H' vs' ∧ compL chk1 vs1 g1 (stepE t1 e) ρ4 (src1.drop (j + 1)) acc' st' = some rr, fun H' z => ⟨src1.length - (j + 1), by omega, rfl, hlj, z⟩, fun x8 H8 y8 => ?_⟩
                      obtain ⟨s8, x8', r8⟩ := yld7 x8 H8 y8
                      refine ⟨M7, src1[j], wipeE ρ4 vs1, st7, s8, r8, (e7.ex x8').wipe vs1, ?_⟩
                      cases qg7 : g1 src1[j] (wipeE ρ4 vs1) st7 with
                      | none => rw [qg7] at hc7; cases hc7
                      | some pp7 =>
                        obtain ⟨ρ9, st9⟩ := pp7
                        rw [qg7] at hc7
                        dsimp only at hc7
                        cases qs7 : stepE t1 e ρ9 acc7 st9 with
                        | none => rw [qs7] at hc7; cases hc7
                        | some rr7 =>
                          rw [qs7] at hc7
                          intro M9 σ9 H9 s9 x9 e9 k9
                          refine ⟨wipe_same (by rw [k9.1, wipe_length]) k9.2 hs1, ?_⟩
                          have xx9 := x8'.trans x9
                          exact step_elt (C7.go s9 xx9) e9 qs7 fun H' M' vs' mo z => ⟨M', rr7.1, rr7.2, vs', (x07.trans xx9.mo).trans mo, z, hc7⟩
                    · rw [if_neg hk7] at hc7; cases hc7
                  · obtain rfl : j = src1.length := by omega
                    rw [List.drop_eq_nil_of_le (Nat.le_refl _)] at hc7
                    unfold compL at hc7
                    by_cases hk7 : chkB chk1 st7 = true
                    · rw [if_pos hk7] at hc7
                      have stp7 := (r6 _ M7 st7 H7 x07 C7.s hk7).2 (Nat.le_refl _)
                      cases hc7
                      exact .inl ⟨stp7, M7, acc7, st7, ws7, x60.trans x07, C7, hc⟩
                    · rw [if_neg hk7] at hc7; cases hc7
      · rw [if_neg hk] at hc; cases hc
    · obtain rfl : i = src.length := by omega
      rw [List.drop_eq_nil_of_le (Nat.le_refl _)] at hc
      unfold compL at hc
      by_cases hk : chkB chk st2 = true
      · rw [if_pos hk] at hc
        have stp := (r1 _ M2 st2 H2 x2 C.s hk).2 (Nat.le_refl _)
        cases hc
        exact .inl ⟨stp, comp_end s1 C h1⟩
      · rw [if_neg hk] at hc; cases hc
theorem px_lc2 (v : Bool) {elt tg iter tg1 iter1 : Expr} {ifs ifs1 : List Expr} {scope : Scope} {own : List (Str × Nat)} {vs1 sl sl1 : List Nat} {di di1 : DenI} {g g1 : DenG} {t t1 : DenT} {e : Den} (hc : X.calm = true) (hN : X.N.Nodup) (hi : PIX X T W tg iter di) (ok : BlkOk X.N X.env.scope scope own)
    (hv : ∀ i ∈ vs1, i ∈ own.map (·.2)) (hsl : ∀ j ∈ sl, j ∈ own.map (·.2)) (hsl1 : ∀ j ∈ sl1, j ∈ vs1)
    (hg : BlkAll X scope fun Y => PGX Y T sl tg g) (ht : BlkAll X scope fun Y => PTs Y ifs (tT T WN t)) (hi1 : BlkAll X scope fun Y => PIX Y T WN tg1 iter1 di1) (hg1 : BlkAll X scope fun Y => PGX Y T sl1 tg1 g1) (ht1 : BlkAll X scope fun Y => PTs Y ifs1 (tT T WN t1)) (he : BlkAll X scope fun Y => PX Y T WN elt e)
    (hs : ∀ x, foldedSetIterable iter X.env x = pure x := by intro _; rfl) (hs1 : ∀ env x, foldedSetIterable iter1 env x = pure x := by intro _ _; rfl) :
    PX X T W (.ListComp elt [⟨tg, iter, ifs, 0⟩, ⟨tg1, iter1, ifs1, 0⟩] scope pos) (dLcB v di (own.map (·.2)) g (stepC t di1 vs1 g1 (stepE t1 e))) :=
  pe_imp (pe_lc2 hc hN hi ok hv hg ht hi1 hg1 ht1 he hs hs1) fun σ H Q h => tLc2_of hsl hsl1 h
end
end FV

set_option Elab.async false
set_option linter.all false
set_option maxRecDepth 100000
set_option maxHeartbeats 4000000
namespace FV
open PySem PySem.Spec PyProof.Rows L2

/-! ### what a def promises -/
def PostF (T : Tb) (M : Mu) (H : Hp) (r : DRes D) (Q : VK) (E : XK) : Prop := match r with
  | .ok d st => ∀ M' v H', SOk T M' H' st → Ex M H M' H' → RV T M' H' d v → Q v H'
  | .exc c fs st => ∀ M' H' C dd xs, SOk T M' H' st → Ex M H M' H' → T.CT[c]? = some C → Fr M' dd → H' dd = some (.xd xs) → RX T M' H' fs xs → E (.ref C) (some dd) H'
  | .bad => False
def spR (T : Tb) (G : FnD) : Sp := fun vs H Q E => ∃ M ds st, SOk T M H st ∧ RVs T M H ds vs ∧ PostF T M H (G ds st) Q E
/-- a def's body by its slots; n parameters, N names -/
def bodyF (n N : Nat) (b : DenS) : FnD := fun ds st => if ds.length = n then (match b (ds.map some ++ List.replicate (N - ds.length) none) st with
  | .nx _ st' => .ok .non st'
  | .rt d st' => .ok d st'
  | .exc c fs _ st' => .exc c fs st'
  | _ => .bad) else .bad
def fzF (lo : Nat) (st : DSto) (fs : List (Nat × D)) : Option (List (Nat × D)) := rsf lo (fzK lo st) fs
/-- a result behind the call's mark: what was made there is told by value or gone -/
def popR (st : DSto) : DRes D → DRes D
  | .ok d st' => match fzD st.length st' d, popS st st' with
    | some e, some st2 => .ok e st2
    | _, _ => .bad
  | .exc c fs st' => match fzF st.length st' fs, popS st st' with
    | some e, some st2 => .exc c e st2
    | _, _ => .bad
  | .bad => .bad
/-- .. whose own objects end with the call -/
def bodyP (n N : Nat) (b : DenS) : FnD := fun ds st => popR st (bodyF n N b ds st)
/-- .. whose last parameter takes what is left over -/
def starF (n : Nat) (G : FnD) : FnD := fun ds st => if n ≤ ds.length ∧ ds.length - n ≤ sizeLine then G (ds.take n ++ [.tup (ds.drop n)]) st else .bad
/-- what is wanted of a cut result is wanted of the whole one -/
theorem popR_post {T : Tb} {M : Mu} {H : Hp} {st : DSto} {r : DRes D} {Q : VK} {E : XK} (s0 : SOk T M H st) (h : PostF T M H (popR st r) Q E) : PostF T M H r Q E := by
  cases r with
  | ok d st' =>
    intro M' v H' s x rv
    have c : Cutd st.length M' M := x.cutd s0.len
    unfold popR at h
    cases q1 : fzD st.length st' d with
    | none => simp only [q1] at h; exact h.elim
    | some e =>
      cases q2 : popS st st' with
      | none => simp only [q1, q2] at h; exact h.elim
      | some st2 =>
        simp only [q1, q2] at h
        obtain ⟨p1, p2⟩ := pop_sok s0 s x q2
        exact h M v H' p1 p2 (fzD_ok s c q1 rv)
  | exc k fs st' =>
    intro M' H' C dd xs s x hC hf hd rx
    have c : Cutd st.length M' M := x.cutd s0.len
    unfold popR at h
    cases q1 : fzF st.length st' fs with
    | none => simp only [q1] at h; exact h.elim
    | some e =>
      cases q2 : popS st st' with
      | none => simp only [q1, q2] at h; exact h.elim
      | some st2 =>
        simp only [q1, q2] at h
        obtain ⟨p1, p2⟩ := pop_sok s0 s x q2
        exact h M H' C dd xs p1 p2 hC (c.fr hf) hd (rsx_ok c (fzK_ok s c) q1 rx)
  | bad => exact h
abbrev FnX (P : Program) (w : World) (T : Tb) (mg : Str → Option Value) (base : Heap) (k : Nat) (f : Addr) (G : FnD) : Prop := FnR P w T.K mg base (L2.CX P w) k f (spR T G)
section
variable {P : Program} {w : World} {T : Tb} {mg : Str → Option Value} {base : Heap} {k : Nat} {f : Addr} {fd : FuncData} {x qual : Str} {st : Stmt} {N ps : List Str} {b : DenS}
theorem start_ok {M : Mu} {H : Hp} {ds : List D} {vs : List V} (N : List Str) (r : RVs T M H ds vs) : EOk T M H (ds.map some ++ List.replicate (N.length - ds.length) none) (L2.start N vs) := by
  have hl := r.len
  refine ⟨by simp [L2.start, hl], fun i d h => ?_⟩
  by_cases hi : i < ds.length
  · rw [List.getElem?_append_left (by simpa using hi), List.getElem?_map] at h
    cases q : ds[i]? with
    | none => rw [q] at h; cases h
    | some d' =>
      rw [q] at h
      cases h
      obtain ⟨v, e, rv⟩ := r.get q
      refine ⟨v, ?_, rv⟩
      unfold L2.start
      rw [List.getElem?_append_left (by simp; omega), List.getElem?_map, e]; rfl
  · rw [List.getElem?_append_right (by simp; omega)] at h
    rw [List.getElem?_replicate] at h
    split at h <;> cases h
/-- the wish of a def's body about exceptions -/
abbrev WF (E : XK) : WX := fun cls d _ H => E cls d H
/-- G runs the body b over the slots N -/
def IsBody (n N : Nat) (b : DenS) (G : FnD) : Prop := ∀ (T : Tb) (M : Mu) (H : Hp) (ds : List D) (st : DSto) (Q : VK) (E : XK), SOk T M H st → PostF T M H (G ds st) Q E → PostF T M H (bodyF n N b ds st) Q E
theorem isB {n N : Nat} {b : DenS} : IsBody n N b (bodyF n N b) := fun _ _ _ _ _ _ _ _ h => h
theorem isP {n N : Nat} {b : DenS} : IsBody n N b (bodyP n N b) := fun _ _ _ _ _ _ _ s h => popR_post s h
theorem body_len {n N : Nat} {E : XK} {Q : VK} {M : Mu} {H : Hp} {ds : List D} {st : DSto} (h : PostF T M H (bodyF n N b ds st) Q E) : ds.length = n := by
  unfold bodyF at h
  by_cases hl : ds.length = n
  · exact hl
  · rw [if_neg hl] at h; exact h.elim
theorem body_post {n : Nat} {E : XK} {Q : VK} {M : Mu} {H : Hp} {ds : List D} {st : DSto} (h : PostF T M H (bodyF n N.length b ds st) Q E) :
    PostS T (WF E) { nx := fun _ H' => Q .non H', rt := Q } M H (b (ds.map some ++ List.replicate (N.length - ds.length) none) st) := by
  have hl := body_len h
  unfold bodyF at h
  rw [if_pos hl] at h
  cases q : b (ds.map some ++ List.replicate (N.length - ds.length) none) st with
  | nx ρ st' => rw [q] at h; exact fun M' σ' H' s x e => h M' .non H' s x (by simp [RV])
  | rt d st' => rw [q] at h; exact fun M' v H' s x e => h M' v H' s x e
  | bk ρ st' => rw [q] at h; exact h.elim
  | ct ρ st' => rw [q] at h; exact h.elim
  | exc c fs ρ st' => rw [q] at h; exact fun M' σ' H' C dd xs s x e => h M' H' C dd xs s x
  | bad => rw [q] at h; exact h.elim
abbrev BodyX (P : Program) (w : World) (T : Tb) (mg : Str → Option Value) (base : Heap) (k : Nat) (N : List Str) (qual : Str) (st : Stmt) (f : Addr) (b : DenS) : Prop :=
  ∀ (cdv : Value) (A : Around) (outer : List Env) (s : Shared) (H : Hp) (E : XK), Room k (A.deeper (envOfC qual (defScope st) s.heap.objs.size f cdv)) →
    PSsX (cxOf (L2.CX P w) P w T.K mg base N qual (defScope st) f cdv A outer s H E) T (WF E) (defBody st) b
theorem fnok_body {G : FnD} (F : Fun T.K x qual st f fd) (S : FnScope N ps (defScope st)) (hG : IsBody ps.length N.length b G) (h : BodyX P w T mg base k N qual st f b) : FnOk P w T.K mg base (L2.CX P w) (k + 1) f fd ps (spR T G) := by
  refine F.okX S (fun vs H Q E hsp => ?_) (fun cdv A outer s H vs Q E hr hsp => ?_)
  · obtain ⟨M, ds, st', so, r, hp⟩ := hsp
    rw [r.len]
    exact body_len (hG _ _ _ _ _ _ _ so hp)
  · obtain ⟨M, ds, st', so, r, hp⟩ := hsp
    exact ⟨_, h cdv A outer s H E hr, M, _, st', so, start_ok N r, body_post (hG _ _ _ _ _ _ _ so hp)⟩
theorem fnx_body {G : FnD} (F : Fun T.K x qual st f fd) (S : FnScope N ps (defScope st)) (hb : Binds T.K fd ps []) (hG : IsBody ps.length N.length b G) (h : BodyX P w T mg base k N qual st f b) : FnX P w T mg base (k + 1) f G := by
  refine ((fnok_body F S hG h).raw hb .nil).imp fun vs H Q E hsp => ?_
  rw [List.append_nil]
  exact hsp
theorem fnx_star {G : FnD} {pv : Str} (F : Fun T.K x qual st f fd) (S : FnScope N (ps ++ [pv]) (defScope st))
    (hb : ∀ (kV doc pm : Value) (an : Option Addr) (cdv ct : Value) (us rest : List Value), us.length = ps.length →
      bindArgs (PySem.W.fnOf x qual (defArgs st) (defBody st) (defScope st) .none kV doc pm an cdv ct) ⟨us ++ rest, []⟩ = (newTuple rest >>= fun t => pure (ps.zip us ++ [(pv, t)])))
    (hG : IsBody (ps.length + 1) N.length b G) (h : BodyX P w T mg base k N qual st f b) : FnX P w T mg base (k + 1) f (starF ps.length G) := by
  obtain ⟨oc, od, kV, doc, pm, an, cdv, ct, osl, rfl, lk, hcd⟩ := F.ex
  refine FnR.imp (StX.fn_star (sp := spR T G) lk hcd S StX.cxUp (hb kV doc pm an cdv ct) fun A outer s H vs Q E hr hsp => ?_) fun vs H Q E hsp => ?_
  · obtain ⟨M, ds, st', so, r, hp⟩ := hsp
    exact ⟨_, h cdv A outer s H E hr, M, _, st', so, start_ok N r, body_post (hG _ _ _ _ _ _ _ so hp)⟩
  · obtain ⟨M, ds, st', so, r, hp⟩ := hsp
    unfold starF at hp
    by_cases hl : ps.length ≤ ds.length ∧ ds.length - ps.length ≤ sizeLine
    · rw [if_pos hl] at hp
      have hlen := r.len
      refine ⟨vs.take ps.length, vs.drop ps.length, (List.take_append_drop _ _).symm, by rw [List.length_take]; omega, by rw [List.length_drop]; omega, fun p hp' => ?_⟩
      obtain ⟨a1, a2, a3⟩ := upd_tup_ok so (r.drop ps.length) hp'
      refine ⟨M, ds.take ps.length ++ [.tup (ds.drop ps.length)], st', a1, ((r.take ps.length).ex a2).app (RVs.one a3), ?_⟩
      revert hp
      generalize G (ds.take ps.length ++ [.tup (ds.drop ps.length)]) st' = R
      intro hp
      cases R with
      | ok d st2 => exact fun M' v H' s x rr => hp M' v H' s (a2.trans x) rr
      | exc c fs st2 => exact fun M' H' C dd xs s x => hp M' H' C dd xs s (a2.trans x)
      | bad => exact hp
    · rw [if_neg hl] at hp; exact hp.elim
/-- a weaker promise: equal where it is not bad -/
theorem FnX.mono {j : Nat} {G : FnD} (F : FnX P w T mg base j f G) (h : j ≤ k) : FnX P w T mg base k f G := FnR.mono F h
end

/-! ### calls -/
/-- how an argument list is met by a call -/
def CallsBy (X : Cx) (pos : Pos) (es : List Expr) (t : TA) : Prop :=
  ∀ (pins : List (Addr × Obj)) (s : Shared) (σ : L2.St) (H : Hp) (f : Value) (first : List Value) (Q : Value → Shared → Prop) (R : List V → Hp → Prop), PySem.W.keepIn X.K f = true → Inv X pins σ H s → t σ H R →
    (∀ us vs H1 s1, Inv X pins σ H1 s1 → Vals vs us → R vs H1 → wpAny (model X.prog X.w) X.A (call f (first ++ us)) Q X.xe s1) →
    wpAny (model X.prog X.w) X.A (callWith pos f first (backTo pos (starEach es X.env)) []) Q X.xe s
section
variable {X : Cx} {T : Tb} {W : WX} {pos p apos : Pos} {e o : Expr} {es : List Expr} {d : Den} {t : DenA} {k : Nat} {f C : Addr} {G : FnD}
theorem cb_nil : CallsBy X pos [] (tA T W dNil) := fun pins s σ H f first Q R hk I ⟨M, ρ, st, so, e, h⟩ k =>
  PySem.W.callWith_K0 I.kIn hk (k [] [] H s I .nil (h M [] H so .refl (by simp [RVs])))
theorem cb_plain (ha : PAX X T W (e :: es) t) (he : starEach (e :: es) X.env = (false, eval e X.env) :: starEach es X.env := by rfl) (hpl : (backTo pos (starEach es X.env)).any (·.1) = false := by rfl) : CallsBy X pos (e :: es) (tA T W t) :=
  fun pins s σ H f first Q R hk I h k => PySem.W.callWith_K (h₀ := X.base) I.ok.mod.kin hk (thn (ha.run pos pins s σ H _ I h) fun us s1 ⟨vs, H1, I1, r, q⟩ => ⟨I1.kIn, k us vs H1 s1 I1 r q⟩) he hpl
theorem cb_star2 (ha : PAX X T W (e :: es) t) (he : starEach (e :: es) X.env = (false, eval e X.env) :: starEach es X.env := by rfl) (hst : (backTo pos (starEach es X.env)).any (·.1) = true := by rfl) : CallsBy X pos (e :: es) (tA T W t) :=
  fun pins s σ H f first Q R hk I h k => PySem.W.callWith_S2 (h₀ := X.base) I.ok.mod.kin hk (thn (ha.run pos pins s σ H _ I h) fun us s1 ⟨vs, H1, I1, r, q⟩ => ⟨I1.kIn, k us vs H1 s1 I1 r q⟩) he hst
theorem cb_star1 (hF : Fits X T W) (ha : PX X T W e d) (hst : starEach [.Starred e p] X.env = [(true, eval e X.env)] := by rfl) : CallsBy X pos [.Starred e p] (tA T W (dStar d dNil)) :=
  fun pins s σ H f first Q R hk I ⟨M, ρ, st, so, eo, h⟩ k => by
    refine PySem.W.callWith_S (h₀ := X.base) I.ok.mod.kin hk (thn (ha.run pins s σ H (fun y H1 => ∃ a vs, y = V.ref a ∧ (SqT X.K H1 a vs ∨ SqL X.K H1 a vs) ∧ R vs H1) I ⟨M, ρ, st, so, eo, (Post.bind (R := RV T) h).mono fun v H1 ⟨M1, x, st1, s1, x1, r1, h1⟩ => ?_⟩) fun v s1 ⟨y, H1, I1, ry, a, vs, ey, hxs, q⟩ => ?_) hst
    · cases q : itemsD x st1 with
      | none => rw [q] at h1; exact h1.elim
      | some ys =>
        rw [q] at h1
        obtain ⟨a, vs, rfl, rr, sq⟩ := items_of hF.K s1 r1 q
        exact ⟨a, vs, rfl, sq.symm, h1 M1 vs H1 s1 .refl (by rw [List.append_nil]; exact rr)⟩
    · subst ey
      obtain rfl : v = Value.ref a := ry
      exact StX.star_any I1 hxs fun us s2 I2 rv => ⟨I2.kIn, k us vs H1 s2 I2 rv q⟩
theorem evalArgs_many {M : Model} {A : Around} {E : Value → Shared → Prop} {s : Shared} {f : Value} {x y : Bool × Sem Value} {rest : List (Bool × Sem Value)} {Q : Args → Shared → Prop}
    (h : wpAny M A (spliced (x :: y :: rest)) (fun vs s' => Q ⟨vs, []⟩ s') E s) : wpAny M A (evalArgs f true (x :: y :: rest) []) Q E s := by
  unfold evalArgs
  obtain ⟨b, x⟩ := x
  cases b
  all_goals
    show wpAny M A (spliced _ >>= _) Q E s
    refine wpAny_bind (wpAny_mono h (fun vs s' h' => ?_) fun _ _ x => x)
    refine wpAny_holding ?_
    exact wpAny_bind (wpAny_pure (wpAny_bind (wpAny_pure (wpAny_pure h'))))
theorem cb_stars {e2 : Expr} {es2 : List Expr} (ha : PAX X T W (.Starred e p :: e2 :: es2) t) (h2 : ∃ y r, backTo pos (starEach (.Starred e p :: e2 :: es2) X.env) = (true, do let v ← eval e X.env; standAt pos; pure v) :: y :: r := by exact ⟨_, _, rfl⟩) :
    CallsBy X pos (.Starred e p :: e2 :: es2) (tA T W t) := fun pins s σ H f first Q R hk I h k => by
  obtain ⟨y, r, e⟩ := h2
  have hs := ha.run pos pins s σ H _ I h
  rw [e] at hs ⊢
  exact PySem.W.ks_call rfl (PySem.W.keeps_K hk) (evalArgs_many (thn hs fun us s1 ⟨vs, H1, I1, r, q⟩ => ⟨I1.kIn, k us vs H1 s1 I1 r q⟩))
/-- from the promise of a def to what is wanted in a body -/
theorem spR_of {σ : L2.St} {M : Mu} {H : Hp} {ds : List D} {st : DSto} {vs : List V} {Q : VK} (s : SOk T M H st) (r : RVs T M H ds vs) (h : Post T (RV T) W σ M H (G ds st) Q) : spR T G vs H Q (fun cls d H => W cls d σ H) := by
  refine ⟨M, ds, st, s, r, ?_⟩
  revert h
  generalize G ds st = R
  intro h
  cases R with
  | ok d st' => exact h
  | exc c fs st' => exact h
  | bad => exact h
theorem run_fnX {pins : List (Addr × Obj)} {σ : L2.St} {H : Hp} {s : Shared} {Q : VK} {us : List Value} {vs : List V} (F : FnR X.prog X.w X.K X.mg X.base (L2.CX X.prog X.w) k f (spR T G)) (hr : Room k X.A) (tk : Takes X W)
    (I : Inv X pins σ H s) (r : Vals vs us) (h : spR T G vs H Q (fun cls d H => W cls d σ H)) : wpAny (model X.prog X.w) X.A (call (.ref f) us) (EP X pins σ Q) X.xe s := by
  refine wpAny_call (codeAny_mono (F X.A X.stack s H us vs Q _ hr I.env0 r h) fun r s' hq => ?_)
  cases r with
  | error e => exact tk e s' (XE.of_call I (fun _ _ _ h => h) hq)
  | ok fl =>
    cases fl with
    | ret u => exact I.after hq
    | next => exact False.elim hq
    | brk => exact False.elim hq
    | cont => exact False.elim hq
def dCall (G : FnD) (t : DenA) : Den := fun ρ st => (t ρ st).bind G
theorem px_call {x : Str} (hF : Fits X T W) (F : FnR X.prog X.w X.K X.mg X.base (L2.CX X.prog X.w) k f (spR T G)) (hr : Room k X.A) (hm : X.mg x = some (.ref f)) (hk : PySem.W.keepIn X.K (.ref f) = true) (ha : CallsBy X pos es (tA T W t)) (hg : Gl X x := by rfl)
    (hdb : (x == ("__debug__" : Str)) = false := by decide) : PX X T W (.Call (.Name x p) es [] pos) (dCall G t) := by
  refine ⟨fun pins s σ H Q I ⟨M, ρ, st, so, eo, h⟩ => ?_⟩
  refine wpAny_Call_Name_kw (ld_glob I hg hm ?_ hdb)
  refine ha pins s σ H (.ref f) [] _ _ hk I ⟨M, ρ, st, so, eo, Post.bind (R := RVs T) h⟩ fun us vs H1 s1 I1 rv ⟨M1, ds, st1, s1', x1, r1, h1⟩ => ?_
  exact run_fnX F hr hF.tk I1 rv (spR_of s1' r1 h1)
/-- C(..): a new instance, then __init__ -/
def mkObj (c : Nat) (G : FnD) (ds : List D) (st : DSto) : DRes D := (G (.ref st.length :: ds) (st ++ [.ins c []])).bind fun v st' => match v with
  | .non => .ok (.ref st.length) st'
  | _ => .bad
def dMake (c : Nat) (G : FnD) (t : DenA) : Den := fun ρ st => (t ρ st).bind fun ds st => mkObj c G ds st
/-- .. told by value: its class has no method that changes it behind __init__ -/
def mkObjV (c : Nat) (G : FnD) (ds : List D) (st : DSto) : DRes D := popR st (mkObj c G ds st)
def dMakeV (c : Nat) (G : FnD) (t : DenA) : Den := fun ρ st => (t ρ st).bind fun ds st => mkObjV c G ds st
theorem Post.popR {σ : L2.St} {M : Mu} {H : Hp} {st : DSto} {r : DRes D} {Q : VK} (s0 : SOk T M H st) (h : Post T (RV T) W σ M H (FV.popR st r) Q) : Post T (RV T) W σ M H r Q := by
  have h' : PostF T M H (FV.popR st r) Q (fun cls d H => W cls d σ H) := by
    revert h
    generalize FV.popR st r = R
    intro h
    cases R with
    | ok d st' => exact h
    | exc c fs st' => exact h
    | bad => exact h
  have h2 := popR_post s0 h'
  cases r with
  | ok d st' => exact h2
  | exc c fs st' => exact h2
  | bad => exact h2
theorem made_ok {c : Nat} {M : Mu} {H : Hp} {st : DSto} {x dx : Addr} (s : SOk T M H st) (hC : T.CT[c]? = some C) (cl : Cls T.K C) (nx : H x = none) (nd : H dx = none) (ne : dx ≠ x) :
    SOk T (M.add x) (upd (upd H dx (.own x)) x (.ins C dx [])) (st ++ [.ins c []]) ∧ Ex M H (M.add x) (upd (upd H dx (.own x)) x (.ins C dx [])) := by
  have s1 : SOk T M (upd H dx (.own x)) st := sok_new s nd
  have n1 : (upd H dx (.own x)) x = none := by rw [upd_ne (Ne.symm ne)]; exact nx
  exact ⟨sok_alloc s1 n1 ⟨C, dx, [], hC, cl, upd_same, by simp [RF]⟩, (ex_new nd).trans (ex_alloc s1 n1)⟩
theorem run_makeX {c : Nat} {pins : List (Addr × Obj)} {σ : L2.St} {H : Hp} {s : Shared} {Q : VK} {us : List Value} {vs : List V} {M : Mu} {ds : List D} {st : DSto} (hF : Fits X T W) (MK : Mk X.K C f) (hC : T.CT[c]? = some C) (cl : Cls T.K C)
    (F : FnR X.prog X.w X.K X.mg X.base (L2.CX X.prog X.w) k f (spR T G)) (hr : Room (k + 1) X.A) (I : Inv X pins σ H s) (r : Vals vs us) (so : SOk T M H st) (rv : RVs T M H ds vs) (h : Post T (RV T) W σ M H (mkObj c G ds st) Q) :
    wpAny (model X.prog X.w) X.A (call (.ref C) us) (EP X pins σ Q) X.xe s := by
  have nx := I.hok.fresh (Nat.le_succ s.heap.objs.size)
  have nd := I.hok.fresh (Nat.le_refl s.heap.objs.size)
  have ne : s.heap.objs.size ≠ s.heap.objs.size + 1 := Nat.ne_of_lt (Nat.lt_succ_self _)
  obtain ⟨so2, x2⟩ := made_ok (c := c) so hC cl nx nd ne
  have I2 := Inv.made (C := C) I
  have r2 : Vals (V.ref (s.heap.objs.size + 1) :: vs) (Value.ref (s.heap.objs.size + 1) :: us) := .cons rfl r
  have rr : RVs T (M.add (s.heap.objs.size + 1)) (upd (upd H s.heap.objs.size (.own (s.heap.objs.size + 1))) (s.heap.objs.size + 1) (.ins C s.heap.objs.size [])) (.ref st.length :: ds) (V.ref (s.heap.objs.size + 1) :: vs) := by
    simp only [RVs]
    exact ⟨_, _, rfl, by simp only [RV]; exact ⟨_, rfl, by rw [← so.len]; simp⟩, rv.ex x2⟩
  have hq : spR T G (V.ref (s.heap.objs.size + 1) :: vs) (upd (upd H s.heap.objs.size (.own (s.heap.objs.size + 1))) (s.heap.objs.size + 1) (.ins C s.heap.objs.size [])) (fun v H2 => v = .non ∧ Q (.ref (s.heap.objs.size + 1)) H2) (fun cls d H => W cls d σ H) := by
    refine spR_of so2 rr ?_
    have h2 := Post.bind (R := RV T) (h.ex x2)
    revert h2
    generalize G (.ref st.length :: ds) (st ++ [.ins c []]) = R
    intro h2
    refine h2.mono fun v H3 ⟨M3, a, st3, s3, x3, r3, h3⟩ => ?_
    cases a with
    | non =>
      simp only [RV] at r3
      refine ⟨r3, h3 M3 _ H3 s3 .refl ?_⟩
      simp only [RV]
      exact ⟨_, rfl, x3.get (by rw [← so.len]; simp)⟩
    | _ => exact h3.elim
  refine wpAny_call (make_map (f := f) I.kIn MK.makes MK.init (beq_iff_eq.mp MK.fn) (codeAny_mono (F _ X.stack _ _ (Value.ref (s.heap.objs.size + 1) :: us) _ _ _ (hr.make C us []) (I2.env0.make C us []) r2 hq) fun r s' hq' => ?_))
  cases r with
  | error e => exact hF.tk e s' (XE.of_call I2 (fun _ _ _ h => h) hq')
  | ok fl =>
    cases fl with
    | ret u =>
      obtain ⟨v, H', I3, rv, ev, q3⟩ := I2.after hq'
      subst ev
      exact ⟨rv, ⟨V.ref (s.heap.objs.size + 1), H', I3, rfl, q3⟩⟩
    | next => exact False.elim hq'
    | brk => exact False.elim hq'
    | cont => exact False.elim hq'
theorem px_make (c : Nat) {x : Str} (hF : Fits X T W) (MK : Mk X.K C f) (hC : T.CT[c]? = some C) (cl : Cls T.K C) (F : FnR X.prog X.w X.K X.mg X.base (L2.CX X.prog X.w) k f (spR T G)) (hr : Room (k + 1) X.A) (hm : X.mg x = some (.ref C)) (ha : CallsBy X pos es (tA T W t)) (hg : Gl X x := by rfl)
    (hdb : (x == ("__debug__" : Str)) = false := by decide) : PX X T W (.Call (.Name x p) es [] pos) (dMake c G t) := by
  refine ⟨fun pins s σ H Q I ⟨M, ρ, st, so, eo, h⟩ => ?_⟩
  refine wpAny_Call_Name_kw (ld_glob I hg hm ?_ hdb)
  refine ha pins s σ H (.ref C) [] _ _ MK.kp I ⟨M, ρ, st, so, eo, Post.bind (R := RVs T) h⟩ fun us vs H1 s1 I1 rv ⟨M1, ds, st1, s1', x1, r1, h1⟩ => ?_
  exact run_makeX hF MK hC cl F hr I1 rv s1' r1 h1
theorem px_makeV (c : Nat) {x : Str} (hF : Fits X T W) (MK : Mk X.K C f) (hC : T.CT[c]? = some C) (cl : Cls T.K C) (F : FnR X.prog X.w X.K X.mg X.base (L2.CX X.prog X.w) k f (spR T G)) (hr : Room (k + 1) X.A) (hm : X.mg x = some (.ref C)) (ha : CallsBy X pos es (tA T W t)) (hg : Gl X x := by rfl)
    (hdb : (x == ("__debug__" : Str)) = false := by decide) : PX X T W (.Call (.Name x p) es [] pos) (dMakeV c G t) := by
  refine ⟨fun pins s σ H Q I ⟨M', ρ, st, so, eo, h⟩ => ?_⟩
  refine wpAny_Call_Name_kw (ld_glob I hg hm ?_ hdb)
  refine ha pins s σ H (.ref C) [] _ _ MK.kp I ⟨M', ρ, st, so, eo, Post.bind (R := RVs T) h⟩ fun us vs H1 s1 I1 rv ⟨M1, ds, st1, s1', x1, r1, h1⟩ => ?_
  exact run_makeX hF MK hC cl F hr I1 rv s1' r1 (Post.popR s1' h1)
end
end FV

set_option Elab.async false
set_option linter.all false
set_option maxRecDepth 100000
set_option maxHeartbeats 4000000
namespace FV
open PySem PySem.Spec PyProof.Rows L2

def putN (f : Nat) (v : D) : List (Nat × D) → List (Nat × D)
  | [] => [(f, v)]
  | (g, x) :: r => if g = f then (g, v) :: r else (g, x) :: putN f v r
def getN (f : Nat) : List (Nat × D) → Option D
  | [] => none
  | (g, x) :: r => if g = f then some x else getN f r
section
variable {T : Tb} {M : Mu} {H : Hp} {C : Addr} {i : Nat} {name : Str} {d : D} {v : V}
theorem ft_inj {j : Nat} (h1 : T.FT[i]? = some name) (h2 : T.FT[j]? = some name) : i = j := nodup_ix T.nd h1 h2
theorem fs_get : ∀ {fs : List (Nat × D)} {vs : List (Str × V)}, RF T M H C fs vs → T.FT[i]? = some name → getN i fs = some d → ∃ v, vs.lookup name = some v ∧ RV T M H d v ∧ NoAttr T.K C name
  | [], _, _, _, e => by cases e
  | (j, x) :: r, _, h, hn, e => by
    simp only [RF] at h
    obtain ⟨g, y, vs, rfl, h1, h3, h2, t⟩ := h
    unfold getN at e
    by_cases hj : j = i
    · rw [if_pos hj] at e
      cases e
      have : g = name := by
        subst hj
        rw [h1] at hn; exact Option.some.inj hn
      subst this
      exact ⟨y, by simp [List.lookup], h2, h3⟩
    · rw [if_neg hj] at e
      obtain ⟨v, e1, r1⟩ := fs_get t hn e
      have ne : name ≠ g := by rintro rfl; exact hj (ft_inj h1 hn)
      exact ⟨v, by rw [List.lookup_cons, beq_eq_false_iff_ne.mpr ne]; exact e1, r1⟩
theorem fs_none : ∀ {fs : List (Nat × D)} {vs : List (Str × V)}, RF T M H C fs vs → name ∉ T.FT → vs.lookup name = none
  | [], _, h, _ => by simp only [RF] at h; subst h; rfl
  | (j, x) :: r, _, h, hn => by
    simp only [RF] at h
    obtain ⟨g, y, vs, rfl, h1, h3, h2, t⟩ := h
    have ne : name ≠ g := by rintro rfl; exact hn (List.mem_of_getElem? h1)
    rw [List.lookup_cons, beq_eq_false_iff_ne.mpr ne]
    exact fs_none t hn
theorem fs_put : ∀ {fs : List (Nat × D)} {vs : List (Str × V)}, RF T M H C fs vs → T.FT[i]? = some name → NoAttr T.K C name → RV T M H d v → RF T M H C (putN i d fs) (putF name v vs)
  | [], _, h, hn, na, r => by
    simp only [RF] at h; subst h
    simp only [putN, putF, RF]
    exact ⟨name, v, [], rfl, hn, na, r, rfl⟩
  | (j, x) :: r, _, h, hn, na, rv => by
    simp only [RF] at h
    obtain ⟨g, y, vs, rfl, h1, h3, h2, t⟩ := h
    unfold putN putF
    by_cases hj : j = i
    · have : g = name := by
        subst hj
        rw [h1] at hn; exact Option.some.inj hn
      rw [if_pos hj, if_pos this]
      simp only [RF]
      exact ⟨g, v, vs, rfl, h1, h3, rv, t⟩
    · have ne : g ≠ name := by rintro rfl; exact hj (ft_inj h1 hn)
      rw [if_neg hj, if_neg ne]
      simp only [RF]
      exact ⟨g, y, _, rfl, h1, h3, h2, fs_put t hn na rv⟩
end
section
variable {X : Cx} {T : Tb} {W : WX} {pos pos' p apos : Pos} {e o : Expr} {es : List Expr} {d : Den} {t : DenA} {k : Nat} {f C : Addr} {G : FnD}
/-- the class and the fields of an instance -/
def insD (x : D) (st : DSto) : Option (Nat × List (Nat × D)) := match x with
  | .ins c fs => some (c, fs)
  | .ref n => match st[n]? with
    | some (.ins c fs) => some (c, fs)
    | _ => none
  | _ => none
/-- e.f -/
def fldD (i : Nat) (x : D) (st : DSto) : DRes D := match insD x st with
  | some (_, fs) => match getN i fs with
    | some y => .ok y st
    | none => .bad
  | none => .bad
def dFld (i : Nat) (d : Den) : Den := fun ρ st => (d ρ st).bind (fldD i)
theorem ins_of {M : Mu} {H : Hp} {st : DSto} {x : D} {c : Nat} {fs : List (Nat × D)} {v : V} (s : SOk T M H st) (r : RV T M H x v) (q : insD x st = some (c, fs)) :
    ∃ a C dx vs, v = .ref a ∧ T.CT[c]? = some C ∧ Cls T.K C ∧ H a = some (.ins C dx vs) ∧ RF T M H C fs vs := by
  unfold insD at q
  cases x with
  | ins c' fs' =>
    cases q
    simp only [RV] at r
    obtain ⟨a, C, dx, vs, rfl, _, h1, h2, h3, h4⟩ := r
    exact ⟨a, C, dx, vs, rfl, h1, h2, h3, h4⟩
  | ref n =>
    simp only [RV] at r
    obtain ⟨a, rfl, e⟩ := r
    cases q1 : st[n]? with
    | none => simp only [q1] at q; cases q
    | some o =>
      cases o with
      | ins c' fs' =>
        simp only [q1] at q
        cases q
        obtain ⟨C, dx, vs, h1, h2, h3, h4⟩ := s.ro n _ a q1 e
        exact ⟨a, C, dx, vs, rfl, h1, h2, h3, h4⟩
      | _ => simp only [q1] at q; cases q
  | _ => cases q
theorem px_fld (i : Nat) {name : Str} (hF : Fits X T W) (hn : T.FT[i]? = some name) (h : PX X T W e d) (hb : attributeBase e name X.env (eval e X.env) = eval e X.env := by rfl) : PX X T W (.Attribute e name pos) (dFld i d) :=
  pe_imp (pe_fld h hb) fun σ H Q ⟨M, ρ, st, s, eo, h⟩ => by
    refine ⟨M, ρ, st, s, eo, (Post.bind (R := RV T) h).mono fun v H1 ⟨M1, x, st1, s1, x1, r1, h1⟩ => ?_⟩
    unfold fldD at h1
    cases q : insD x st1 with
    | none => simp only [q] at h1; exact h1.elim
    | some p =>
      obtain ⟨c, fs⟩ := p
      simp only [q] at h1
      cases q2 : getN i fs with
      | none => simp only [q2] at h1; exact h1.elim
      | some y =>
        simp only [q2] at h1
        obtain ⟨a, C, dx, vs, rfl, h2, h3, h4, h5⟩ := ins_of s1 r1 q
        obtain ⟨w, l, rw', na⟩ := fs_get h5 hn q2
        rw [hF.K]
        exact ⟨a, C, dx, vs, w, rfl, h4, h3, na, l, h1 M1 w H1 s1 .refl rw'⟩
/-- e.f = v -/
def setFld (c i : Nat) (x y : D) (st : DSto) : Option DSto := match x with
  | .ref n => match st[n]? with
    | some (.ins c' fs) => if c' = c ∧ fs.length < 1000 then some (st.set n (.ins c' (putN i y fs))) else none
    | _ => none
  | _ => none
def dSetF (c i : Nat) (o d : Den) : DenS := fun ρ st => (d ρ st).toS ρ fun y st => (o ρ st).toS ρ fun x st => match setFld c i x y st with
  | some st => .nx ρ st
  | none => .bad
theorem psx_fld (c i : Nat) {name : Str} {od : Den} (hF : Fits X T W) (hn : T.FT[i]? = some name) (hC : T.CT[c]? = some C) (na : NoAttr T.K C name) (ho : PX X T W o od) (hv : PX X T W e d)
    (hs : swapsWith e (some (.Attribute o name pos')) pos.line X.env = pure false := by rfl) : PSX X T W (.Assign [.Attribute o name pos'] e pos) (dSetF c i od d) :=
  ps_imp (ps_fld ho hv hs) fun D σ H ⟨M, ρ, st, s, eo, h⟩ => by
    refine ⟨M, ρ, st, s, eo, (PostS.bind (R := RV T) h eo).mono fun v H1 ⟨M1, y, st1, s1, x1, r1, h1⟩ => ?_⟩
    refine ⟨M1, ρ, st1, s1, eo.ex x1, (PostS.bind (R := RV T) h1 (eo.ex x1)).mono fun u H2 ⟨M2, x, st2, s2, x2, r2, h2⟩ => ?_⟩
    unfold setFld at h2
    cases x with
    | ref n =>
      cases q : st2[n]? with
      | none => simp only [q] at h2; exact h2.elim
      | some ob =>
        cases ob with
        | ins c' fs =>
          simp only [q] at h2
          by_cases hz : c' = c ∧ fs.length < 1000
          · rw [if_pos hz] at h2
            obtain ⟨rfl, hl⟩ := hz
            have r2' := r2
            simp only [RV] at r2'
            obtain ⟨a, rfl, e1⟩ := r2'
            obtain ⟨C', dx, vs, g2, g3, g4, g5⟩ := s2.ro n _ a q e1
            rw [hC] at g2; cases g2
            rw [hF.K]
            refine ⟨a, C, dx, vs, rfl, g4, g3, na, by rw [g5.len]; exact hl, ?_⟩
            have x3 : Ex M2 H2 M2 (upd H2 a (.ins C dx (putF name v vs))) := ex_write (List.mem_of_getElem? e1)
            refine h2 M2 σ _ (sok_write s2 e1 ⟨C, dx, _, hC, g3, upd_same, ?_⟩) x3 (((eo.ex x1).ex x2).ex x3)
            exact (fs_put g5 hn na (r1.ex x2)).mo x3.mo
          · rw [if_neg hz] at h2; exact h2.elim
        | lst xs => simp only [q] at h2; exact h2.elim
        | dct t xs => simp only [q] at h2; exact h2.elim
        | dead => simp only [q] at h2; exact h2.elim
    | _ => exact h2.elim
/-- the receiver is an instance of the class c -/
def isIns (c : Nat) (x : D) (st : DSto) : Bool := match insD x st with
  | some (c', _) => decide (c' = c)
  | none => false
theorem isIns_of {c : Nat} {x : D} {st : DSto} (h : isIns c x st = true) : ∃ fs, insD x st = some (c, fs) := by
  unfold isIns at h
  cases q : insD x st with
  | none => rw [q] at h; cases h
  | some p =>
    obtain ⟨c', fs⟩ := p
    rw [q] at h
    exact ⟨fs, by cases of_decide_eq_true h; rfl⟩
/-- o.m(..) -/
def dMeth (c : Nat) (G : FnD) (o : Den) (t : DenA) : Den := fun ρ st => (o ρ st).bind fun x st => if isIns c x st = true then (t ρ st).bind fun ds st => G (x :: ds) st else .bad
theorem px_meth (c : Nat) {m : Str} {pl : Sem Bool} {od : Den} (hF : Fits X T W) (hC : T.CT[c]? = some C) (hnf : m ∉ T.FT) (hm : Meth X.K C m f) (F : FnR X.prog X.w X.K X.mg X.base (L2.CX X.prog X.w) k f (spR T G)) (hr : Room k X.A) (ho : PX X T W o od) (ha : CallsBy X pos es (tA T W t))
    (ht : eval (.Call (.Attribute o m apos) es [] pos) X.env = (do
      let ov ← eval o X.env
      standAt apos.atName
      let (f, first) ← holding [ov] (getMethod ov m pl)
      callWith pos f first (backTo pos (starEach es X.env)) (backToKw pos (keywordEach [] X.env))) := by rfl) :
    PX X T W (.Call (.Attribute o m apos) es [] pos) (dMeth c G od t) := by
  refine ⟨fun pins s σ H Q I ⟨M, ρ, st, so, eo, h⟩ => ?_⟩
  refine PySem.W.methodCall_KW (pl := pl) (thn (ho.run pins s σ H _ I ⟨M, ρ, st, so, eo, Post.bind (R := RV T) h⟩) fun u s1 ⟨v, H1, I1, rv, M1, x, st1, s1', x1, r1, h1⟩ => ?_) ht
  by_cases hi : isIns c x st1 = true
  · rw [if_pos hi] at h1
    obtain ⟨fs, q⟩ := isIns_of hi
    obtain ⟨a, C', dx, vs, rfl, g2, g3, g4, g5⟩ := ins_of s1' r1 q
    rw [hC] at g2; cases g2
    obtain rfl : u = Value.ref a := rv
    rw [← hF.K] at g3
    refine getmeth_ok I1 g4 g3 hm (fs_none g5 hnf) ?_
    refine ha pins s1 σ H1 (.ref f) [.ref a] _ _ hm.kp I1 ⟨M1, ρ, st1, s1', eo.ex x1, Post.bind (R := RVs T) h1⟩ fun us vs2 H2 s2 I2 rv2 ⟨M2, ds, st2, s2', x2, r2, h2⟩ => ?_
    exact run_fnX (us := .ref a :: us) (vs := .ref a :: vs2) F hr hF.tk I2 (.cons rfl rv2) (spR_of s2' (by simp only [RVs]; exact ⟨_, _, rfl, r1.ex x2, r2⟩) h2)
  · rw [if_neg hi] at h1; exact h1.elim
/-- e.f, a property; its getter raises nothing -/
def dProp (c : Nat) (G : FnD) (o : Den) : Den := fun ρ st => (o ρ st).bind fun x st => if isIns c x st = true then (match G [x] st with
  | .ok d st => .ok d st
  | _ => .bad) else .bad
theorem px_prop (c : Nat) {m : Str} {pp g : Addr} {fd : FuncData} {ps : List Str} {od : Den} (hF : Fits X T W) (hC : T.CT[c]? = some C) (hp : PropOf X.K C m pp g) (F : FnOk X.prog X.w X.K X.mg X.base (L2.CX X.prog X.w) k g fd ps (spR T G)) (hb : Binds X.K fd ps []) (hr : Room (k + 1) X.A) (ho : PX X T W e od)
    (hab : attributeBase e m X.env (eval e X.env) = eval e X.env := by rfl) : PX X T W (.Attribute e m pos) (dProp c G od) := by
  refine ⟨fun pins s σ H Q I ⟨M, ρ, st, so, eo, h⟩ => ?_⟩
  refine attr_of hab (thn (ho.run pins s σ H _ I ⟨M, ρ, st, so, eo, Post.bind (R := RV T) h⟩) fun u s1 ⟨v, H1, I1, rv, M1, x, st1, s1', x1, r1, h1⟩ => ?_)
  by_cases hi : isIns c x st1 = true
  · rw [if_pos hi] at h1
    obtain ⟨fs, q⟩ := isIns_of hi
    obtain ⟨a, C', dx, vs, rfl, g2, g3, g4, g5⟩ := ins_of s1' r1 q
    rw [hC] at g2; cases g2
    obtain rfl : u = Value.ref a := rv
    rw [← hF.K] at g3
    refine getprop_ok (CX := L2.CX X.prog X.w) (E := E0) I1 g4 g3 hp F hr hb .nil passL ⟨M1, [x], st1, s1', RVs.one r1, ?_⟩
    revert h1
    generalize G [x] st1 = R
    intro h1
    cases R with
    | ok d st2 => exact h1
    | exc c fs st2 => exact h1.elim
    | bad => exact h1
  · rw [if_neg hi] at h1; exact h1.elim
/-- C.m(..), a static method -/
structure SMet (K : PySem.W.Frag) (C : Addr) (m : Str) (g : Addr) : Prop where
  rd : PySem.W.readsIn K C (.type "type") = true
  ga : PySem.W.specialIn K (.ref C) "__getattribute__" = some (some (.builtin "type.__getattribute__"))
  at_ : ∃ p, PySem.W.findCls K (.ref C) (.type "type") m = some (.get (.builtin "staticmethod.__get__") (.ref p) .none (.ref C)) ∧ ∃ rest, PySem.W.recIn K p "staticmethod" = some (.ref g :: rest)
  kp : PySem.W.keepIn K (.ref g) = true
theorem px_static {x m : Str} {pl : Sem Bool} (hF : Fits X T W) (hS : SMet X.K C m f) (F : FnR X.prog X.w X.K X.mg X.base (L2.CX X.prog X.w) k f (spR T G)) (hr : Room k X.A) (hm : X.mg x = some (.ref C)) (ha : CallsBy X pos es (tA T W t)) (hg : Gl X x := by rfl)
    (hdb : (x == ("__debug__" : Str)) = false := by decide)
    (ht : eval (.Call (.Attribute (.Name x p) m apos) es [] pos) X.env = (do
      let ov ← eval (.Name x p) X.env
      standAt apos.atName
      let (f, first) ← holding [ov] (getMethod ov m pl)
      callWith pos f first (backTo pos (starEach es X.env)) (backToKw pos (keywordEach [] X.env))) := by rfl) :
    PX X T W (.Call (.Attribute (.Name x p) m apos) es [] pos) (dCall G t) := by
  refine ⟨fun pins s σ H Q I ⟨M, ρ, st, so, eo, h⟩ => ?_⟩
  refine PySem.W.methodCall_KW (pl := pl) (ld_glob I hg hm ?_ hdb) ht
  obtain ⟨p, hat, rest, hrec⟩ := hS.at_
  refine PySem.W.method_cls I.kIn hS.ga (PySem.W.cls_bind I.kIn hS.rd hat (wpAny_call (PySem.W.sm_get (s := { s with toks := s.toks + 1 }) I.kIn hrec (PySem.W.handed_on rfl ?_))))
  refine ha pins _ σ H (.ref f) [] _ _ hS.kp (I.tok (s.toks + 1)) ⟨M, ρ, st, so, eo, Post.bind (R := RVs T) h⟩ fun us vs H1 s1 I1 rv ⟨M1, ds, st1, s1', x1, r1, h1⟩ => ?_
  exact run_fnX F hr hF.tk I1 rv (spR_of s1' r1 h1)
end
end FV

set_option Elab.async false
set_option linter.all false
set_option maxRecDepth 100000
set_option maxHeartbeats 4000000
namespace FV
open PySem PySem.Spec PyProof.Rows L2

/-! ### data as PyData -/
mutual
def pyOf (lk : Nat → Option PyData) : D → Option PyData
  | .non => some .none
  | .bl b => some (.bool b)
  | .int i => some (.int i)
  | .str s => some (.str s)
  | .tup xs => (pyOfs lk xs).map .tuple
  | .lst xs => (pyOfs lk xs).map .list
  | .dct _ _ => none
  | .ins _ _ => none
  | .exv _ _ => none
  | .ref n => lk n
  | .scr ns => some (.list (ns.map .int))
def pyOfs (lk : Nat → Option PyData) : List D → Option (List PyData)
  | [] => some []
  | x :: xs => (pyOf lk x).bind fun a => (pyOfs lk xs).map fun b => a :: b
end
def lookL (st : DSto) (lk : Nat → Option PyData) (n : Nat) : Option PyData := match st[n]? with
  | some (.lst xs) => (pyOfs lk xs).map .list
  | _ => none
def reify (st : DSto) : D → Option PyData := pyOf (lookL st (lookL st (lookL st fun _ => none)))
section
variable {T : Tb} {M : Mu} {H : Hp} {st : DSto} {lk : Nat → Option PyData}
def LkOk (T : Tb) (M : Mu) (H : Hp) (lk : Nat → Option PyData) : Prop := ∀ n p a, lk n = some p → M.l[n]? = some a → Dp T.K H (.ref a) p
theorem dp_ints (K : PySem.W.Frag) (H : Hp) : ∀ ns : List Int, DpAll K H (ns.map V.int) (ns.map PyData.int)
  | [] => .nil
  | n :: ns => .cons (.int n) (dp_ints K H ns)
mutual
theorem pyOf_ok (h : LkOk T M H lk) : ∀ {d : D} {v : V} {p : PyData}, pyOf lk d = some p → RV T M H d v → Dp T.K H v p
  | .non, v, p, e, r => by simp only [RV] at r; simp only [pyOf, Option.some.injEq] at e; subst r e; exact .non
  | .bl b, v, p, e, r => by simp only [RV] at r; simp only [pyOf, Option.some.injEq] at e; subst r e; exact .bl b
  | .int i, v, p, e, r => by simp only [RV] at r; simp only [pyOf, Option.some.injEq] at e; subst r e; exact .int i
  | .str s, v, p, e, r => by simp only [RV] at r; simp only [pyOf, Option.some.injEq] at e; subst r e; exact .str s
  | .tup xs, v, p, e, r => by
    simp only [RV] at r
    obtain ⟨a, vs, rfl, _, e1, rr⟩ := r
    simp only [pyOf, Option.map_eq_some_iff] at e
    obtain ⟨ps, e2, rfl⟩ := e
    exact .tup (SqT.of e1) (pyOfs_ok h e2 rr)
  | .lst xs, v, p, e, r => by
    simp only [RV] at r
    obtain ⟨a, vs, rfl, _, e1, rr⟩ := r
    simp only [pyOf, Option.map_eq_some_iff] at e
    obtain ⟨ps, e2, rfl⟩ := e
    exact .lst (SqL.of e1) (pyOfs_ok h e2 rr)
  | .dct _ _, v, p, e, r => by simp [pyOf] at e
  | .ins _ _, v, p, e, r => by simp [pyOf] at e
  | .exv _ _, v, p, e, r => by simp [pyOf] at e
  | .ref n, v, p, e, r => by
    simp only [RV] at r
    obtain ⟨a, rfl, e1⟩ := r
    exact h n p a e e1
  | .scr ns, v, p, e, r => by
    simp only [RV] at r
    obtain ⟨a, rfl, e1⟩ := r
    simp only [pyOf, Option.some.injEq] at e
    subst e
    exact .lst (sqL_scr (M := M) e1) (dp_ints _ _ ns)
theorem pyOfs_ok (h : LkOk T M H lk) : ∀ {d : List D} {v : List V} {p : List PyData}, pyOfs lk d = some p → RVs T M H d v → DpAll T.K H v p
  | [], v, p, e, r => by simp only [RVs] at r; simp only [pyOfs, Option.some.injEq] at e; subst r e; exact .nil
  | x :: xs, v, p, e, r => by
    simp only [RVs] at r
    obtain ⟨w, ws, rfl, r1, r2⟩ := r
    simp only [pyOfs] at e
    obtain ⟨a, e1, e⟩ := Option.bind_eq_some_iff.mp e
    obtain ⟨b, e2, e⟩ := Option.map_eq_some_iff.mp e
    subst e
    exact .cons (pyOf_ok h e1 r1) (pyOfs_ok h e2 r2)
end
theorem lookL_ok (s : SOk T M H st) (h : LkOk T M H lk) : LkOk T M H (lookL st lk) := fun n p a e e1 => by
  unfold lookL at e
  cases q : st[n]? with
  | none => rw [q] at e; cases e
  | some o =>
    rw [q] at e
    cases o with
    | lst xs =>
      obtain ⟨ps, e2, rfl⟩ := Option.map_eq_some_iff.mp e
      obtain ⟨vs, e3, r⟩ := s.ro n _ a q e1
      exact .lst (SqL.of e3) (pyOfs_ok h e2 r)
    | _ => cases e
theorem reify_ok (s : SOk T M H st) {d : D} {v : V} {p : PyData} (e : reify st d = some p) (r : RV T M H d v) : Dp T.K H v p :=
  pyOf_ok (lookL_ok s (lookL_ok s (lookL_ok s fun _ _ _ e => by cases e))) e r
end

/-! ### comparisons -/
def eqO : OpD := fun x y st => match reify st x, reify st y with
  | some a, some b => if SeqAt.shaped a = true ∧ SeqAt.shaped b = true then some (.bl (PyData.eqv a b), st) else none
  | _, _ => none
def neO : OpD := fun x y st => match reify st x, reify st y with
  | some a, some b => if SeqAt.shaped a = true ∧ SeqAt.shaped b = true then some (.bl (!PyData.eqv a b), st) else none
  | _, _ => none
def cmpI (f : Int → Int → Bool) : OpD := fun x y st => match x, y with
  | .int i, .int j => some (.bl (f i j), st)
  | _, _ => none
abbrev ltO : OpD := cmpI fun i j => decide (i < j)
abbrev leO : OpD := cmpI fun i j => decide (i ≤ j)
abbrev gtO : OpD := cmpI fun i j => decide (j < i)
abbrev geO : OpD := cmpI fun i j => decide (j ≤ i)
/-- flat data -/
def flatD : D → Bool
  | .non | .bl _ | .int _ | .str _ => true
  | _ => false
def vOf : D → V
  | .bl b => .bl b
  | .int i => .int i
  | .str s => .str s
  | _ => .non
def memO (neg : Bool) : OpD := fun x y st => match y with
  | .tup ys => if flatD x = true ∧ ys.all flatD = true then some (.bl (if neg then !inV (vOf x) (ys.map vOf) else inV (vOf x) (ys.map vOf)), st) else none
  | .ref _ | .lst _ => match reify st x, reify st y with
    | some a, some (.list ds) => if SeqAt.shaped a = true ∧ SeqAt.shaped (.list ds) = true then some (.bl (if neg then !ds.any fun z => PyData.eqv z a else ds.any fun z => PyData.eqv z a), st) else none
    | _, _ => none
  | _ => none
abbrev inS : OpD := memO false
abbrev ninS : OpD := memO true
def isO : OpD := fun x y st => match y with
  | .non => some (.bl (decide (x = .non)), st)
  | .bl b => match x with
    | .bl a => some (.bl (decide (a = b)), st)
    | _ => none
  | _ => none
def nisO : OpD := fun x y st => match y with
  | .non => some (.bl (!decide (x = .non)), st)
  | .bl b => match x with
    | .bl a => some (.bl (!decide (a = b)), st)
    | _ => none
  | _ => none
section
variable {X : Cx} {T : Tb} {M : Mu} {H : Hp} {st : DSto}
theorem PostO.fin {d : D} {v : V} {Q : VK} (s : SOk T M H st) (r : RV T M H d v) (h : PostO T M H (some (d, st)) Q) : Q v H := h M v H s .refl r
theorem ox_eq (hK : X.K = T.K) (hu : X.A.units + 64 < cLine) : OpX X T (compareOp .Eq) eqO := OpR.imp (op_eqD hu) fun x y H Q ⟨M, d, e, st, s, r1, r2, h⟩ => by
  unfold eqO at h
  cases q1 : reify st d with
  | none => simp only [q1] at h; exact h.elim
  | some a =>
    cases q2 : reify st e with
    | none => simp only [q1, q2] at h; exact h.elim
    | some b =>
      simp only [q1, q2] at h
      by_cases hs : SeqAt.shaped a = true ∧ SeqAt.shaped b = true
      · rw [if_pos hs] at h
        rw [hK]
        exact ⟨a, b, reify_ok s q1 r1, reify_ok s q2 r2, hs.1, hs.2, PostO.fin s (by simp [RV]) h⟩
      · rw [if_neg hs] at h; exact h.elim
theorem ox_ne (hK : X.K = T.K) (hu : X.A.units + 64 < cLine) : OpX X T (compareOp .NotEq) neO := OpR.imp (op_neD hu) fun x y H Q ⟨M, d, e, st, s, r1, r2, h⟩ => by
  unfold neO at h
  cases q1 : reify st d with
  | none => simp only [q1] at h; exact h.elim
  | some a =>
    cases q2 : reify st e with
    | none => simp only [q1, q2] at h; exact h.elim
    | some b =>
      simp only [q1, q2] at h
      by_cases hs : SeqAt.shaped a = true ∧ SeqAt.shaped b = true
      · rw [if_pos hs] at h
        rw [hK]
        exact ⟨a, b, reify_ok s q1 r1, reify_ok s q2 r2, hs.1, hs.2, PostO.fin s (by simp [RV]) h⟩
      · rw [if_neg hs] at h; exact h.elim
theorem ints_of {d e : D} {x y : V} {i j : Int} (r1 : RV T M H (.int i) x) (r2 : RV T M H (.int j) y) : x = .int i ∧ y = .int j := by
  simp only [RV] at r1 r2; exact ⟨r1, r2⟩
theorem ox_cmpI {op : CmpOp} {f : Int → Int → Bool} (h0 : OpR X (compareOp op) (rI0 fun i j => .bl (f i j))) : OpX X T (compareOp op) (cmpI f) := OpR.imp h0 fun x y H Q ⟨M, d, e, st, s, r1, r2, h⟩ => by
  cases d with
  | int i =>
    cases e with
    | int j =>
      obtain ⟨rfl, rfl⟩ := ints_of (d := .non) (e := .non) r1 r2
      exact ⟨i, j, rfl, rfl, PostO.fin s (by simp [RV]) h⟩
    | _ => exact h.elim
  | _ => exact h.elim
theorem ox_lt : OpX X T (compareOp .Lt) ltO := ox_cmpI op_lt
theorem ox_le : OpX X T (compareOp .LtE) leO := ox_cmpI op_le
theorem ox_gt : OpX X T (compareOp .Gt) gtO := ox_cmpI op_gt
theorem ox_ge : OpX X T (compareOp .GtE) geO := ox_cmpI op_ge
theorem flat_of {d : D} {v : V} (r : RV T M H d v) (h : flatD d = true) : v = vOf d ∧ flatV v = true := by
  cases d with
  | non => simp only [RV] at r; subst r; exact ⟨rfl, rfl⟩
  | bl b => simp only [RV] at r; subst r; exact ⟨rfl, rfl⟩
  | int i => simp only [RV] at r; subst r; exact ⟨rfl, rfl⟩
  | str b => simp only [RV] at r; subst r; exact ⟨rfl, rfl⟩
  | _ => cases h
theorem flats_of : ∀ {ds : List D} {vs : List V}, RVs T M H ds vs → ds.all flatD = true → vs = ds.map vOf ∧ vs.all flatV = true
  | [], _, r, _ => by simp only [RVs] at r; subst r; exact ⟨rfl, rfl⟩
  | d :: ds, _, r, h => by
    simp only [RVs] at r
    obtain ⟨v, ws, rfl, r1, r2⟩ := r
    rw [List.all_cons, Bool.and_eq_true] at h
    obtain ⟨e1, f1⟩ := flat_of r1 h.1
    obtain ⟨e2, f2⟩ := flats_of r2 h.2
    exact ⟨by rw [List.map_cons, ← e1, ← e2], by rw [List.all_cons, f1, f2]; rfl⟩
theorem ox_in (hK : X.K = T.K) (hu : X.A.units + 65 < cLine) : OpX X T (compareOp .In) inS := OpR.imp (op_in_seq.or (op_inD hu)) fun x y H Q ⟨M, d, e, st, s, r1, r2, h⟩ => by
  unfold inS memO at h
  cases e with
  | tup ys =>
    dsimp only at h
    by_cases hf : flatD d = true ∧ ys.all flatD = true
    · rw [if_pos hf] at h
      simp only [RV] at r2
      obtain ⟨a, vs, rfl, _, e1, rr⟩ := r2
      obtain ⟨q1, f1⟩ := flat_of r1 hf.1
      obtain ⟨q2, f2⟩ := flats_of rr hf.2
      subst q1 q2
      exact .inl ⟨a, _, rfl, .inr (SqT.of e1), f1, f2, PostO.fin s (by simp [RV]) h⟩
    · rw [if_neg hf] at h; exact h.elim
  | ref n =>
    dsimp only at h
    cases q1 : reify st d with
    | none => simp only [q1] at h; exact h.elim
    | some a =>
      cases q2 : reify st (.ref n) with
      | none => simp only [q1, q2] at h; exact h.elim
      | some b =>
        cases b with
        | list ds =>
          simp only [q1, q2] at h
          by_cases hs : SeqAt.shaped a = true ∧ SeqAt.shaped (.list ds) = true
          · rw [if_pos hs] at h
            rw [hK]
            exact .inr ⟨a, ds, reify_ok s q1 r1, reify_ok s q2 r2, hs.1, hs.2, PostO.fin s (by simp [RV]) h⟩
          · rw [if_neg hs] at h; exact h.elim
        | _ => simp only [q1, q2] at h; exact h.elim
  | lst zs =>
    dsimp only at h
    cases q1 : reify st d with
    | none => simp only [q1] at h; exact h.elim
    | some a =>
      cases q2 : reify st (.lst zs) with
      | none => simp only [q1, q2] at h; exact h.elim
      | some b =>
        cases b with
        | list ds =>
          simp only [q1, q2] at h
          by_cases hs : SeqAt.shaped a = true ∧ SeqAt.shaped (.list ds) = true
          · rw [if_pos hs] at h
            rw [hK]
            exact .inr ⟨a, ds, reify_ok s q1 r1, reify_ok s q2 r2, hs.1, hs.2, PostO.fin s (by simp [RV]) h⟩
          · rw [if_neg hs] at h; exact h.elim
        | _ => simp only [q1, q2] at h; exact h.elim
  | _ => exact h.elim
theorem ox_nin (hK : X.K = T.K) (hu : X.A.units + 65 < cLine) : OpX X T (compareOp .NotIn) ninS := OpR.imp (op_notIn_seq.or (op_notInD hu)) fun x y H Q ⟨M, d, e, st, s, r1, r2, h⟩ => by
  unfold ninS memO at h
  cases e with
  | tup ys =>
    dsimp only at h
    by_cases hf : flatD d = true ∧ ys.all flatD = true
    · rw [if_pos hf] at h
      simp only [RV] at r2
      obtain ⟨a, vs, rfl, _, e1, rr⟩ := r2
      obtain ⟨q1, f1⟩ := flat_of r1 hf.1
      obtain ⟨q2, f2⟩ := flats_of rr hf.2
      subst q1 q2
      exact .inl ⟨a, _, rfl, .inr (SqT.of e1), f1, f2, PostO.fin s (by simp [RV]) h⟩
    · rw [if_neg hf] at h; exact h.elim
  | ref n =>
    dsimp only at h
    cases q1 : reify st d with
    | none => simp only [q1] at h; exact h.elim
    | some a =>
      cases q2 : reify st (.ref n) with
      | none => simp only [q1, q2] at h; exact h.elim
      | some b =>
        cases b with
        | list ds =>
          simp only [q1, q2] at h
          by_cases hs : SeqAt.shaped a = true ∧ SeqAt.shaped (.list ds) = true
          · rw [if_pos hs] at h
            rw [hK]
            exact .inr ⟨a, ds, reify_ok s q1 r1, reify_ok s q2 r2, hs.1, hs.2, PostO.fin s (by simp [RV]) h⟩
          · rw [if_neg hs] at h; exact h.elim
        | _ => simp only [q1, q2] at h; exact h.elim
  | lst zs =>
    dsimp only at h
    cases q1 : reify st d with
    | none => simp only [q1] at h; exact h.elim
    | some a =>
      cases q2 : reify st (.lst zs) with
      | none => simp only [q1, q2] at h; exact h.elim
      | some b =>
        cases b with
        | list ds =>
          simp only [q1, q2] at h
          by_cases hs : SeqAt.shaped a = true ∧ SeqAt.shaped (.list ds) = true
          · rw [if_pos hs] at h
            rw [hK]
            exact .inr ⟨a, ds, reify_ok s q1 r1, reify_ok s q2 r2, hs.1, hs.2, PostO.fin s (by simp [RV]) h⟩
          · rw [if_neg hs] at h; exact h.elim
        | _ => simp only [q1, q2] at h; exact h.elim
  | _ => exact h.elim
theorem non_iff {d : D} {v : V} (r : RV T M H d v) : decide (v = .non) = decide (d = .non) := by
  cases d with
  | non => simp only [RV] at r; simp [r]
  | bl b => simp only [RV] at r; simp [r]
  | int b => simp only [RV] at r; simp [r]
  | str b => simp only [RV] at r; simp [r]
  | tup b => simp only [RV] at r; obtain ⟨a, vs, e, _⟩ := r; simp [e]
  | lst b => simp only [RV] at r; obtain ⟨a, vs, e, _⟩ := r; simp [e]
  | dct t b => simp only [RV] at r; obtain ⟨a, e, _⟩ := r; simp [e]
  | ins c b => simp only [RV] at r; obtain ⟨a, C, dx, vs, e, _⟩ := r; simp [e]
  | exv c b => simp only [RV] at r; obtain ⟨a, C, dx, e, _⟩ := r; simp [e]
  | ref b => simp only [RV] at r; obtain ⟨a, e, _⟩ := r; simp [e]
  | scr b => simp only [RV] at r; obtain ⟨a, e, _⟩ := r; simp [e]
theorem ox_is : OpX X T (compareOp .Is) isO := OpR.imp (op_isN.or op_isBl) fun x y H Q ⟨M, d, e, st, s, r1, r2, h⟩ => by
  unfold isO at h
  cases e with
  | non =>
    simp only [RV] at r2
    subst r2
    exact .inl ⟨rfl, by rw [non_iff r1]; exact PostO.fin s (by simp [RV]) h⟩
  | bl b =>
    cases d with
    | bl a =>
      simp only [RV] at r1 r2
      subst r1 r2
      exact .inr ⟨a, b, rfl, rfl, PostO.fin s (by simp [RV]) h⟩
    | _ => exact h.elim
  | _ => exact h.elim
theorem ox_nis : OpX X T (compareOp .IsNot) nisO := OpR.imp (op_notN.or op_notBl) fun x y H Q ⟨M, d, e, st, s, r1, r2, h⟩ => by
  unfold nisO at h
  cases e with
  | non =>
    simp only [RV] at r2
    subst r2
    exact .inl ⟨rfl, by rw [non_iff r1]; exact PostO.fin s (by simp [RV]) h⟩
  | bl b =>
    cases d with
    | bl a =>
      simp only [RV] at r1 r2
      subst r1 r2
      exact .inr ⟨a, b, rfl, rfl, PostO.fin s (by simp [RV]) h⟩
    | _ => exact h.elim
  | _ => exact h.elim
end

/-! ### arithmetic -/
/-- the items of a list -/
def lstD (x : D) (st : DSto) : Option (List D) := match x with
  | .lst xs => some xs
  | .ref n => match st[n]? with
    | some (.lst xs) => some xs
    | _ => none
  | _ => none
def addO : OpD := fun x y st => match x, y with
  | .int i, .int j => some (.int (i + j), st)
  | .str a, .str b => if a.length + b.length ≤ sizeLine then some (.str (a ++ b), st) else none
  | .tup xs, .tup ys => if xs.length + ys.length ≤ sizeLine then some (.tup (xs ++ ys), st) else none
  | x, y => match lstD x st, lstD y st with
    | some xs, some ys => if xs.length + ys.length ≤ sizeLine then some (.lst (xs ++ ys), st) else none
    | _, _ => none
def subO : OpD := fun x y st => match x, y with
  | .int i, .int j => some (.int (i - j), st)
  | _, _ => none
def mulO : OpD := fun x y st => match x, y with
  | .int i, .int j => if (-(2 ^ 64) < i ∧ i < 2 ^ 64) ∨ (-(2 ^ 64) < j ∧ j < 2 ^ 64) then some (.int (i * j), st) else none
  | .str a, .int j => if a.length ≤ 16 ∧ 0 ≤ j ∧ j ≤ 1000 then some (.str (Txt.mul a j), st) else none
  | x, .int k => match lstD x st with
    | some xs => if -(2 ^ 63) ≤ k ∧ k < 2 ^ 63 ∧ xs.length * k.toNat ≤ sizeLine then some (.lst (List.replicate k.toNat xs).flatten, st) else none
    | _ => none
  | _, _ => none
def fdivO : OpD := fun x y st => match x, y with
  | .int i, .int j => if 0 < j ∧ j < 1073741824 then some (.int (i / j), st) else none
  | _, _ => none
def modO : OpD := fun x y st => match x, y with
  | .int i, .int j => if 0 < j then some (.int (i % j), st) else none
  | _, _ => none
def powO : OpD := fun x y st => match x, y with
  | .int i, .int j => if 0 ≤ j ∧ j ≤ 1000000 ∧ i.natAbs < 2 ^ 64 then some (.int (i ^ j.toNat), st) else none
  | _, _ => none
section
variable {X : Cx} {T : Tb} {M : Mu} {H : Hp} {st : DSto}
theorem lstD_of {x : D} {xs : List D} {v : V} (s : SOk T M H st) (r : RV T M H x v) (q : lstD x st = some xs) : ∃ a vs, v = .ref a ∧ H a = some (.lst vs) ∧ RVs T M H xs vs := by
  unfold lstD at q
  cases x with
  | lst ys =>
    cases q
    simp only [RV] at r
    obtain ⟨a, vs, rfl, _, e, rr⟩ := r
    exact ⟨a, vs, rfl, e, rr⟩
  | ref n =>
    simp only [RV] at r
    obtain ⟨a, rfl, e⟩ := r
    cases q1 : st[n]? with
    | none => simp only [q1] at q; cases q
    | some o =>
      cases o with
      | lst ys =>
        simp only [q1] at q
        cases q
        obtain ⟨vs, e1, rr⟩ := s.ro n _ a q1 e
        exact ⟨a, vs, rfl, e1, rr⟩
      | _ => simp only [q1] at q; cases q
  | _ => cases q
theorem alloc_fin {d : DObj} {o : HO} {p : Addr} {Q : VK} (s : SOk T M H st) (hp : H p = none) (r : RO T (M.add p) (upd H p o) d p) (h : PostO T M H (some (.ref st.length, st ++ [d])) Q) : Q (.ref p) (upd H p o) := by
  obtain ⟨a1, a2, a3⟩ := new_ok s hp r
  exact h _ _ _ a1 a2 a3
/-- a new list by value -/
theorem lst_fin {xs : List D} {vs : List V} {p : Addr} {Q : VK} (s : SOk T M H st) (hp : H p = none) (r : RVs T M H xs vs) (h : PostO T M H (some (.lst xs, st)) Q) : Q (.ref p) (upd H p (.lst vs)) := by
  obtain ⟨a1, a2, a3⟩ := upd_lst_ok s r hp
  exact h _ _ _ a1 a2 a3
theorem rvs_rep {xs : List D} {vs : List V} (r : RVs T M H xs vs) : ∀ n, RVs T M H (List.replicate n xs).flatten (List.replicate n vs).flatten
  | 0 => by simp [RVs]
  | n + 1 => by
    rw [List.replicate_succ, List.replicate_succ, List.flatten_cons, List.flatten_cons]
    exact r.app (rvs_rep r n)
theorem RVs.nil_iff {xs : List D} {vs : List V} (r : RVs T M H xs vs) : vs = [] ↔ xs = [] := by
  have := r.len
  constructor
  · rintro rfl; exact List.eq_nil_of_length_eq_zero (by simpa using this.symm)
  · rintro rfl; exact List.eq_nil_of_length_eq_zero (by simpa using this)
theorem ox_add (hK : X.K = T.K) : OpX X T (binaryOp .Add) addO := OpR.imp ((op_add.or op_add_str).or (op_catA.or op_cat)) fun x y H Q ⟨M, d, e, st, s, r1, r2, h⟩ => by
  unfold addO at h
  split at h
  · rename_i i j
    simp only [RV] at r1 r2; subst r1 r2
    exact .inl (.inl ⟨i, j, rfl, rfl, PostO.fin s (by simp [RV]) h⟩)
  · rename_i a b
    by_cases hz : a.length + b.length ≤ sizeLine
    · rw [if_pos hz] at h
      simp only [RV] at r1 r2; subst r1 r2
      exact .inl (.inr ⟨a, b, rfl, rfl, hz, PostO.fin s (by simp [RV]) h⟩)
    · rw [if_neg hz] at h; exact h.elim
  · rename_i xs ys
    by_cases hz : xs.length + ys.length ≤ sizeLine
    · rw [if_pos hz] at h
      have q1 := r1; have q2 := r2
      simp only [RV] at r1 r2
      obtain ⟨a, vs, rfl, _, e1, rr1⟩ := r1
      obtain ⟨b, ws, rfl, _, e2, rr2⟩ := r2
      refine .inr (.inl ⟨a, b, vs, ws, rfl, rfl, SqT.of e1, SqT.of e2, by rw [rr1.len, rr2.len]; exact hz, fun h0 => ?_, fun h0 h1 => ?_, fun h0 h1 p hp => ?_⟩)
      · have : xs = [] := rr1.nil_iff.mp h0
        subst this
        exact PostO.fin s (by simpa using q2) h
      · have : ys = [] := rr2.nil_iff.mp h1
        subst this
        exact PostO.fin s (by simpa using q1) h
      · obtain ⟨a1, a2, a3⟩ := upd_tup_ok s (rr1.app rr2) hp
        exact h M _ _ a1 a2 a3
    · rw [if_neg hz] at h; exact h.elim
  · cases q1 : lstD d st with
    | none => simp only [q1] at h; exact h.elim
    | some xs =>
      cases q2 : lstD e st with
      | none => simp only [q1, q2] at h; exact h.elim
      | some ys =>
        simp only [q1, q2] at h
        by_cases hz : xs.length + ys.length ≤ sizeLine
        · rw [if_pos hz] at h
          obtain ⟨a, vs, rfl, h1, rr1⟩ := lstD_of s r1 q1
          obtain ⟨b, ws, rfl, h2, rr2⟩ := lstD_of s r2 q2
          exact .inr (.inr ⟨a, b, vs, ws, rfl, rfl, h1, h2, by rw [rr1.len, rr2.len]; exact hz, fun p hp => lst_fin s hp (rr1.app rr2) h⟩)
        · rw [if_neg hz] at h; exact h.elim
theorem ox_int {op : Operator} {C : Int → Int → Prop} [∀ i j, Decidable (C i j)] {g : Int → Int → Int} (h0 : OpR X (binaryOp op) (rI C fun i j => .int (g i j))) :
    OpX X T (binaryOp op) (fun x y st => match x, y with | .int i, .int j => if C i j then some (.int (g i j), st) else none | _, _ => none) := OpR.imp h0 fun x y H Q ⟨M, d, e, st, s, r1, r2, h⟩ => by
  cases d with
  | int i =>
    cases e with
    | int j =>
      dsimp only at h
      by_cases hz : C i j
      · rw [if_pos hz] at h
        simp only [RV] at r1 r2; subst r1 r2
        exact ⟨i, j, rfl, rfl, hz, PostO.fin s (by simp [RV]) h⟩
      · rw [if_neg hz] at h; exact h.elim
    | _ => exact h.elim
  | _ => exact h.elim
theorem ox_sub : OpX X T (binaryOp .Sub) subO := OpR.imp op_sub fun x y H Q ⟨M, d, e, st, s, r1, r2, h⟩ => by
  cases d with
  | int i =>
    cases e with
    | int j =>
      simp only [RV] at r1 r2; subst r1 r2
      exact ⟨i, j, rfl, rfl, PostO.fin s (by simp [RV]) h⟩
    | _ => exact h.elim
  | _ => exact h.elim
instance (i j : Int) : Decidable (CDiv i j) := inferInstanceAs (Decidable (_ ∧ _))
instance (i j : Int) : Decidable (CPow i j) := inferInstanceAs (Decidable (_ ∧ _))
theorem ox_fdiv : OpX X T (binaryOp .FloorDiv) fdivO := ox_int (C := CDiv) op_fdiv
theorem ox_mod : OpX X T (binaryOp .Mod) modO := ox_int (C := fun _ j => 0 < j) op_mod
theorem ox_pow : OpX X T (binaryOp .Pow) powO := ox_int (C := CPow) op_pow
theorem op_mul_str : OpR X (binaryOp .Mult) (fun x y H Q => ∃ a k, x = .str a ∧ y = .int k ∧ a.length ≤ 16 ∧ 0 ≤ k ∧ k ≤ 1000 ∧ Q (.str (Txt.mul a k)) H) := by
  intro pins s σ H x y v u Q I rx ry h
  obtain ⟨a, k, rfl, rfl, h1, h2, h3, q⟩ := h
  obtain ⟨t, rfl⟩ := rx
  obtain ⟨t', rfl⟩ := ry
  exact SB.mul (mulOk_of 16 1000 h1 (by omega) (by omega) (by decide) (by decide)) fun t' k' => ⟨.str _, H, I.tok _, ⟨_, rfl⟩, q⟩
theorem ox_mul : OpX X T (binaryOp .Mult) mulO := OpR.imp (op_mul.or (op_mul_str.or op_rep)) fun x y H Q ⟨M, d, e, st, s, r1, r2, h⟩ => by
  unfold mulO at h
  split at h
  · rename_i i j
    by_cases hz : (-(2 ^ 64) < i ∧ i < 2 ^ 64) ∨ (-(2 ^ 64) < j ∧ j < 2 ^ 64)
    · rw [if_pos hz] at h
      simp only [RV] at r1 r2; subst r1 r2
      exact .inl ⟨i, j, rfl, rfl, hz, PostO.fin s (by simp [RV]) h⟩
    · rw [if_neg hz] at h; exact h.elim
  · rename_i a j
    by_cases hz : a.length ≤ 16 ∧ 0 ≤ j ∧ j ≤ 1000
    · rw [if_pos hz] at h
      simp only [RV] at r1 r2; subst r1 r2
      exact .inr (.inl ⟨a, j, rfl, rfl, hz.1, hz.2.1, hz.2.2, PostO.fin s (by simp [RV]) h⟩)
    · rw [if_neg hz] at h; exact h.elim
  · rename_i k _ _
    cases q1 : lstD d st with
    | none => simp only [q1] at h; exact h.elim
    | some xs =>
      simp only [q1] at h
      by_cases hz : -(2 ^ 63) ≤ k ∧ k < 2 ^ 63 ∧ xs.length * k.toNat ≤ sizeLine
      · rw [if_pos hz] at h
        obtain ⟨a, vs, rfl, h1, rr⟩ := lstD_of s r1 q1
        simp only [RV] at r2; subst r2
        exact .inr (.inr ⟨a, k, vs, rfl, rfl, h1, hz.1, hz.2.1, by rw [rr.len]; exact hz.2.2, fun p hp => lst_fin s hp (rvs_rep rr _) h⟩)
      · rw [if_neg hz] at h; exact h.elim
  · exact h.elim
end
end FV

set_option Elab.async false
set_option linter.all false
set_option maxRecDepth 100000
set_option maxHeartbeats 4000000
namespace FV
open PySem PySem.Spec PyProof.Rows L2

abbrev OpL := List D → DSto → Option (D × DSto)
def rC (T : Tb) (g : OpL) : List V → Hp → VK → Prop := fun vs H Q => ∃ M ds st, SOk T M H st ∧ RVs T M H ds vs ∧ PostO T M H (g ds st) Q
abbrev CallX (X : Cx) (T : Tb) (f : Value) (g : OpL) : Prop := CallR X f (rC T g)
theorem CallR.imp {X : Cx} {f : Value} {r r' : List V → Hp → VK → Prop} (h : CallR X f r) (k : ∀ vs H Q, r' vs H Q → r vs H Q) : CallR X f r' := fun pins s σ H xs us Q I r q => h pins s σ H xs us Q I r (k xs H Q q)
def dB' (g : OpL) (t : DenA) : Den := fun ρ st => (t ρ st).bind fun ds st => ofO (g ds st)
section
variable {X : Cx} {T : Tb} {W : WX} {pos p apos : Pos} {e : Expr} {es : List Expr} {d : Den} {t : DenA} {g : OpL} {x : Str} {id : String}
theorem tCB_of {σ : L2.St} {H : Hp} {Q : VK} (h : tI T W (dB' g t) σ H Q) : tCB (rC T g) (tA T W t) σ H Q := by
  obtain ⟨M, ρ, st, s, eo, h⟩ := h
  exact ⟨M, ρ, st, s, eo, (Post.bind (R := RVs T) h).mono fun vs H1 ⟨M1, ds, st1, s1, x1, r1, h1⟩ => ⟨M1, ds, st1, s1, r1, PostO.of h1⟩⟩
theorem px_callB (hc : CallX X T (.builtin id) g) (hm : X.mg x = none) (ha : PAX X T W (e :: es) t) (hv : bootBuiltins x = some (.builtin id) := by decide +kernel) (hg : Gl X x := by rfl) (hn : x ≠ "__name__" := by decide) (hdb : (x == ("__debug__" : Str)) = false := by decide)
    (he : starEach (e :: es) X.env = (false, eval e X.env) :: starEach es X.env := by rfl) (hpl : (backTo pos (starEach es X.env)).any (·.1) = false := by rfl) : PX X T W (.Call (.Name x p) (e :: es) [] pos) (dB' g t) :=
  pe_imp (pe_callB hc hg hm hv ha hn hdb he hpl) fun _ _ _ h => tCB_of h
theorem px_callTy {Ty : String} (hc : CallX X T (.type Ty) g) (hm : X.mg x = none) (ha : PAX X T W (e :: es) t) (hv : bootBuiltins x = some (.type Ty) := by decide +kernel) (hg : Gl X x := by rfl) (hn : x ≠ "__name__" := by decide) (hdb : (x == ("__debug__" : Str)) = false := by decide)
    (he : starEach (e :: es) X.env = (false, eval e X.env) :: starEach es X.env := by rfl) (hpl : (backTo pos (starEach es X.env)).any (·.1) = false := by rfl) : PX X T W (.Call (.Name x p) (e :: es) [] pos) (dB' g t) :=
  pe_imp (pe_callTy hc hg hm hv ha hn hdb he hpl) fun _ _ _ h => tCB_of h
end

/-! ### the built-in functions -/
/-- the entries of a dict; true: its keys are tuples -/
def dctD (x : D) (st : DSto) : Option (Bool × List (D × D)) := match x with
  | .dct t kvs => some (t, kvs)
  | .ref n => match st[n]? with
    | some (.dct t kvs) => some (t, kvs)
    | _ => none
  | _ => none
def lenS : OpL := fun ds st => match ds with
  | [.str s] => if s.length ≤ sizeLine then some (.int s.length, st) else none
  | [x] => (itemsD x st).map fun xs => (.int xs.length, st)
  | _ => none
def intO : OpL := fun ds st => match ds with
  | [.int i] => some (.int i, st)
  | [.bl b] => some (.int (if b then 1 else 0), st)
  | _ => none
def intsD : List D → Option (List Int)
  | [] => some []
  | .int i :: r => (intsD r).map (i :: ·)
  | _ => none
def blsD : List D → Option (List Bool)
  | [] => some []
  | .bl i :: r => (blsD r).map (i :: ·)
  | _ => none
def sumO : OpL := fun ds st => match ds with
  | [x] => (lstD x st).bind fun xs => (intsD xs).map fun ns => (.int ns.sum, st)
  | _ => none
def allO : OpL := fun ds st => match ds with
  | [x] => (lstD x st).bind fun xs => (blsD xs).map fun ns => (.bl (ns.all id), st)
  | _ => none
def anyO : OpL := fun ds st => match ds with
  | [x] => (lstD x st).bind fun xs => (blsD xs).map fun ns => (.bl (ns.any id), st)
  | _ => none
/-- list(x), entering the store -/
def listR : OpL := fun ds st => match ds with
  | [x] => (itemsD x st).map fun xs => (.ref st.length, st ++ [.lst xs])
  | _ => none
def listO : OpL := fun ds st => match ds with
  | [x] => (itemsD x st).map fun xs => (.lst xs, st)
  | _ => none
def tupleO : OpL := fun ds st => match ds with
  | [x] => (itemsD x st).map fun xs => (.tup xs, st)
  | _ => none
def maxO : OpL := fun ds st => match ds with
  | [.int i, .int j] => some (.int (if j > i then j else i), st)
  | _ => none
def minO : OpL := fun ds st => match ds with
  | [.int i, .int j] => some (.int (if j < i then j else i), st)
  | _ => none
section
variable {X : Cx} {T : Tb} {M : Mu} {H : Hp} {st : DSto}
theorem rvs1 {d : D} {vs : List V} (r : RVs T M H [d] vs) : ∃ v, vs = [v] ∧ RV T M H d v := by
  simp only [RVs] at r
  obtain ⟨v, ws, rfl, r1, rfl⟩ := r
  exact ⟨v, rfl, r1⟩
theorem rvs2 {d e : D} {vs : List V} (r : RVs T M H [d, e] vs) : ∃ v w, vs = [v, w] ∧ RV T M H d v ∧ RV T M H e w := by
  simp only [RVs] at r
  obtain ⟨v, ws, rfl, r1, w, ws2, rfl, r2, rfl⟩ := r
  exact ⟨v, w, rfl, r1, r2⟩
theorem paired_len {α β : Type} {F : α → β → Prop} : ∀ {l : List α} {m : List β}, Paired F l m → m.length = l.length
  | _, _, .nil => rfl
  | _, _, .cons _ t => by simp [paired_len t]
theorem dctD_of {x : D} {t : Bool} {kvs : List (D × D)} {v : V} (s : SOk T M H st) (r : RV T M H x v) (q : dctD x st = some (t, kvs)) :
    ∃ a, v = .ref a ∧ ((t = false ∧ ∃ ks, Rd H a (.dK ks) ∧ RK T M H kvs ks) ∨ t = true ∧ ∃ ks, H a = some (.ext (NdO T.P T.w a ks)) ∧ RN T M H kvs ks) := by
  unfold dctD at q
  cases x with
  | dct u ys =>
    cases q
    simp only [RV] at r
    obtain ⟨a, rfl, _, h⟩ := r
    exact ⟨a, rfl, h⟩
  | ref n =>
    simp only [RV] at r
    obtain ⟨a, rfl, e⟩ := r
    cases q1 : st[n]? with
    | none => simp only [q1] at q; cases q
    | some o =>
      cases o with
      | dct u ys =>
        simp only [q1] at q
        cases q
        refine ⟨a, rfl, ?_⟩
        rcases s.ro n _ a q1 e with ⟨ht, ks, e1, r⟩ | h
        · exact .inl ⟨ht, ks, .inl e1, r⟩
        · exact .inr h
      | _ => simp only [q1] at q; cases q
  | _ => cases q
theorem cx_lenS (hF : X.K = T.K) : CallX X T (.builtin "len") lenS := CallR.imp call_len fun vs H Q ⟨M, ds, st, s, r, h⟩ => by
  unfold lenS at h
  split at h
  · rename_i z
    obtain ⟨v, rfl, r1⟩ := rvs1 r
    simp only [RV] at r1; subst r1
    by_cases hz : z.length ≤ sizeLine
    · rw [if_pos hz] at h
      exact ⟨_, z.length, rfl, ⟨hz, rfl⟩, PostO.fin s (by simp [RV]) h⟩
    · rw [if_neg hz] at h; exact h.elim
  · rename_i x _
    obtain ⟨v, rfl, r1⟩ := rvs1 r
    cases q : itemsD x st with
    | some xs =>
      simp only [q, Option.map_some] at h
      obtain ⟨a, ws, rfl, rr, sq⟩ := items_of hF s r1 q
      exact ⟨_, xs.length, rfl, sq.imp (fun z => ⟨ws, z, rr.len.symm⟩) (fun z => ⟨ws, z, rr.len.symm⟩), PostO.fin s (by simp [RV]) h⟩
    | none => simp only [q] at h; exact h.elim
  · exact h.elim
theorem cx_int : CallX X T (.type "int") intO := CallR.imp call_int1 fun vs H Q ⟨M, ds, st, s, r, h⟩ => by
  unfold intO at h
  match ds, h with
  | [.int i], h =>
    obtain ⟨v, rfl, r1⟩ := rvs1 r
    simp only [RV] at r1; subst r1
    exact .inl ⟨i, rfl, PostO.fin s (by simp [RV]) h⟩
  | [.bl b], h =>
    obtain ⟨v, rfl, r1⟩ := rvs1 r
    simp only [RV] at r1; subst r1
    exact .inr ⟨b, rfl, PostO.fin s (by simp [RV]) h⟩
theorem intsD_ok : ∀ {xs : List D} {vs : List V} {ns : List Int}, intsD xs = some ns → RVs T M H xs vs → vs = ns.map V.int
  | [], vs, ns, h, r => by simp only [intsD, Option.some.injEq] at h; subst h; simpa [RVs] using r
  | .int i :: xs, vs, ns, h, r => by
    simp only [intsD, Option.map_eq_some_iff] at h
    obtain ⟨ms, h, rfl⟩ := h
    simp only [RVs, RV] at r
    obtain ⟨v, ws, rfl, rfl, r2⟩ := r
    rw [intsD_ok h r2]; rfl
theorem blsD_ok : ∀ {xs : List D} {vs : List V} {ns : List Bool}, blsD xs = some ns → RVs T M H xs vs → vs = ns.map V.bl
  | [], vs, ns, h, r => by simp only [blsD, Option.some.injEq] at h; subst h; simpa [RVs] using r
  | .bl i :: xs, vs, ns, h, r => by
    simp only [blsD, Option.map_eq_some_iff] at h
    obtain ⟨ms, h, rfl⟩ := h
    simp only [RVs, RV] at r
    obtain ⟨v, ws, rfl, rfl, r2⟩ := r
    rw [blsD_ok h r2]; rfl
theorem lst_of {n : Nat} {xs : List D} {v : V} (s : SOk T M H st) (r : RV T M H (.ref n) v) (q : st[n]? = some (.lst xs)) : ∃ a vs, v = .ref a ∧ M.l[n]? = some a ∧ H a = some (.lst vs) ∧ RVs T M H xs vs := by
  simp only [RV] at r
  obtain ⟨a, rfl, e⟩ := r
  obtain ⟨vs, e1, rr⟩ := s.ro n _ a q e
  exact ⟨a, vs, rfl, e, e1, rr⟩
theorem cx_sum (hc : X.calm = true) : CallX X T (.builtin "sum") sumO := CallR.imp (cr_sum hc) fun vs H Q ⟨M, ds, st, s, r, h⟩ => by
  unfold sumO at h
  match ds, h with
  | [x], h =>
    obtain ⟨v, rfl, r1⟩ := rvs1 r
    dsimp only at h
    cases q : lstD x st with
    | none => simp only [q] at h; exact h.elim
    | some xs =>
      simp only [q, Option.bind_some] at h
      obtain ⟨a, ws, rfl, e1, rr⟩ := lstD_of s r1 q
      cases q2 : intsD xs with
      | none => simp only [q2] at h; exact h.elim
      | some ns =>
        simp only [q2, Option.map_some] at h
        rw [intsD_ok q2 rr] at e1
        exact ⟨a, ns, rfl, SqL.of e1, PostO.fin s (by simp [RV]) h⟩
theorem cx_all (hc : X.calm = true) : CallX X T (.builtin "all") allO := CallR.imp (cr_all hc) fun vs H Q ⟨M, ds, st, s, r, h⟩ => by
  unfold allO at h
  match ds, h with
  | [x], h =>
    obtain ⟨v, rfl, r1⟩ := rvs1 r
    dsimp only at h
    cases q : lstD x st with
    | none => simp only [q] at h; exact h.elim
    | some xs =>
      simp only [q, Option.bind_some] at h
      obtain ⟨a, ws, rfl, e1, rr⟩ := lstD_of s r1 q
      cases q2 : blsD xs with
      | none => simp only [q2] at h; exact h.elim
      | some ns =>
        simp only [q2, Option.map_some] at h
        rw [blsD_ok q2 rr] at e1
        exact ⟨a, ns, rfl, SqL.of e1, PostO.fin s (by simp [RV]) h⟩
theorem cx_any (hc : X.calm = true) : CallX X T (.builtin "any") anyO := CallR.imp (cr_any hc) fun vs H Q ⟨M, ds, st, s, r, h⟩ => by
  unfold anyO at h
  match ds, h with
  | [x], h =>
    obtain ⟨v, rfl, r1⟩ := rvs1 r
    dsimp only at h
    cases q : lstD x st with
    | none => simp only [q] at h; exact h.elim
    | some xs =>
      simp only [q, Option.bind_some] at h
      obtain ⟨a, ws, rfl, e1, rr⟩ := lstD_of s r1 q
      cases q2 : blsD xs with
      | none => simp only [q2] at h; exact h.elim
      | some ns =>
        simp only [q2, Option.map_some] at h
        rw [blsD_ok q2 rr] at e1
        exact ⟨a, ns, rfl, SqL.of e1, PostO.fin s (by simp [RV]) h⟩
theorem cx_listR (hK : X.K = T.K) : CallX X T (.type "list") listR := CallR.imp call_list_of fun vs H Q ⟨M, ds, st, s, r, h⟩ => by
  unfold listR at h
  match ds, h with
  | [x], h =>
    obtain ⟨v, rfl, r1⟩ := rvs1 r
    dsimp only at h
    cases q : itemsD x st with
    | none => simp only [q] at h; exact h.elim
    | some xs =>
      simp only [q, Option.map_some] at h
      obtain ⟨a, ws, rfl, rr, sq⟩ := items_of hK s r1 q
      exact ⟨a, ws, rfl, sq, fun l hl => alloc_fin (d := .lst xs) s hl ⟨_, upd_same, rr.ex (ex_alloc s hl)⟩ h⟩
theorem cx_list (hK : X.K = T.K) : CallX X T (.type "list") listO := CallR.imp call_list_of fun vs H Q ⟨M, ds, st, s, r, h⟩ => by
  unfold listO at h
  match ds, h with
  | [x], h =>
    obtain ⟨v, rfl, r1⟩ := rvs1 r
    dsimp only at h
    cases q : itemsD x st with
    | none => simp only [q] at h; exact h.elim
    | some xs =>
      simp only [q, Option.map_some] at h
      obtain ⟨a, ws, rfl, rr, sq⟩ := items_of hK s r1 q
      exact ⟨a, ws, rfl, sq, fun l hl => lst_fin s hl rr h⟩
theorem cx_tuple (hK : X.K = T.K) : CallX X T (.type "tuple") tupleO := CallR.imp call_tuple_of fun vs H Q ⟨M, ds, st, s, r, h⟩ => by
  unfold tupleO at h
  match ds, h with
  | [x], h =>
    obtain ⟨v, rfl, r1⟩ := rvs1 r
    dsimp only at h
    cases q : itemsD x st with
    | none => simp only [q] at h; exact h.elim
    | some xs =>
      simp only [q, Option.map_some] at h
      have lst : ∀ a ws, v = .ref a → RVs T M H xs ws → SqL X.K H a ws → _ := fun a ws ea rr sq => (⟨a, ws, by rw [ea], .inl ⟨sq, fun l hl => by
        obtain ⟨a1, a2, a3⟩ := upd_tup_ok s rr hl
        exact h _ _ _ a1 a2 a3⟩⟩ : ∃ a ws, [v] = [V.ref a] ∧ ((SqL X.K H a ws ∧ ∀ l, H l = none → Q (.ref l) (upd H l (.tup ws))) ∨ (SqT X.K H a ws ∧ Q (.ref a) H)))
      cases x with
      | tup ys =>
        cases (show some ys = some xs from q)
        have r2 := r1
        simp only [RV] at r1
        obtain ⟨a, ws, rfl, _, e, rr⟩ := r1
        exact ⟨a, ws, rfl, .inr ⟨SqT.of e, PostO.fin s r2 h⟩⟩
      | lst ys =>
        cases (show some ys = some xs from q)
        simp only [RV] at r1
        obtain ⟨a, ws, ea, _, e, rr⟩ := r1
        exact lst a ws ea rr (SqL.of e)
      | ref n =>
        unfold itemsD at q
        cases q1 : st[n]? with
        | none => simp only [q1] at q; cases q
        | some o =>
          cases o with
          | lst ys =>
            simp only [q1] at q
            cases q
            obtain ⟨a, ws, ea, e, e1, rr⟩ := lst_of s r1 q1
            exact lst a ws ea rr (SqL.of e1)
          | _ => simp only [q1] at q; cases q
      | scr ns =>
        cases (show some (ns.map D.int) = some xs from q)
        simp only [RV] at r1
        obtain ⟨a, ea, e⟩ := r1
        exact lst a _ ea (rvs_ints ns) (by rw [hK]; exact sqL_scr (M := M) e)
      | _ => cases q
theorem cx_max (hc : X.calm = true) : CallX X T (.builtin "max") maxO := CallR.imp (call_max2 hc) fun vs H Q ⟨M, ds, st, s, r, h⟩ => by
  unfold maxO at h
  match ds, h with
  | [.int i, .int j], h =>
    obtain ⟨v, w, rfl, r1, r2⟩ := rvs2 r
    simp only [RV] at r1 r2; subst r1 r2
    exact ⟨i, j, rfl, PostO.fin s (by simp [RV]) h⟩
theorem cx_min (hc : X.calm = true) : CallX X T (.builtin "min") minO := CallR.imp (call_min2 hc) fun vs H Q ⟨M, ds, st, s, r, h⟩ => by
  unfold minO at h
  match ds, h with
  | [.int i, .int j], h =>
    obtain ⟨v, w, rfl, r1, r2⟩ := rvs2 r
    simp only [RV] at r1 r2; subst r1 r2
    exact ⟨i, j, rfl, PostO.fin s (by simp [RV]) h⟩
end

/-! ### subscripts, slices, stores -/
def ixS : OpD := fun x y st => match y with
  | .int i => match x with
    | .str z => if z.length ≤ sizeLine then (atI z.cps.toList i).map fun c => (.str ⟨#[c]⟩, st) else none
    | _ => (itemsD x st).bind fun xs => (atI xs i).map fun v => (v, st)
  | _ => none
section
variable {X : Cx} {T : Tb} {W : WX} {M : Mu} {H : Hp} {st : DSto} {a b : Expr} {da db : Den} {pos : Pos}
theorem atI_rvs {xs : List D} {vs : List V} {i : Int} {d : D} (r : RVs T M H xs vs) (h : atI xs i = some d) : ∃ v, atI vs i = some v ∧ RV T M H d v := by
  unfold atI at h ⊢
  rw [r.len]
  cases q : ixN xs.length i with
  | none => rw [q] at h; cases h
  | some j =>
    rw [q] at h
    exact r.get h
theorem ixx (hK : X.K = T.K) : IxR X (rD T ixS) := fun value slice pins s σ H x y v u Q I rx ry ⟨M, d, e, st, so, r1, r2, h⟩ hs => by
  refine ix_seq value slice pins s σ H x y v u Q I rx ry ?_ hs
  unfold ixS at h
  cases e with
  | int i =>
    simp only [RV] at r2; subst r2
    have seq : ∀ {xs : List D} {dd : D}, itemsD d st = some xs → (∀ z, d ≠ .str z) → PostO T M H ((atI xs i).map fun v => (v, st)) Q → rIx X.K x (.int i) H Q := fun {xs dd} q hn h => by
      obtain ⟨p, ws, rfl, rr, sq⟩ := items_of hK so r1 q
      cases q2 : atI xs i with
      | none => rw [q2] at h; exact h.elim
      | some z =>
        rw [q2] at h
        obtain ⟨w, e1, r3⟩ := atI_rvs rr q2
        rcases sq with sq | sq
        · exact .inl ⟨p, ws, i, w, rfl, rfl, sq, e1, PostO.fin so r3 h⟩
        · exact .inr (.inl ⟨p, ws, i, w, rfl, rfl, sq, e1, PostO.fin so r3 h⟩)
    cases d with
    | str z =>
      dsimp only at h
      by_cases hz : z.length ≤ sizeLine
      · rw [if_pos hz] at h
        simp only [RV] at r1; subst r1
        cases q : atI z.cps.toList i with
        | none => rw [q] at h; exact h.elim
        | some c =>
          rw [q] at h
          exact .inr (.inr ⟨z, i, c, rfl, rfl, hz, q, PostO.fin so (by simp [RV]) h⟩)
      · rw [if_neg hz] at h; exact h.elim
    | tup xs => exact seq (dd := .non) rfl (fun _ => by simp) h
    | lst xs => exact seq (dd := .non) rfl (fun _ => by simp) h
    | dct t xs => exact h.elim
    | ins c xs => exact h.elim
    | exv c xs => exact h.elim
    | ref n =>
      cases q : itemsD (.ref n) st with
      | none => simp only [q] at h; exact h.elim
      | some xs => simp only [q] at h; exact seq (dd := .non) q (fun _ => by simp) h
    | scr ns => exact seq (dd := .non) rfl (fun _ => by simp) h
    | non => exact h.elim
    | bl b => exact h.elim
    | int b => exact h.elim
  | _ => exact h.elim
/-- a part of a slice -/
def dPart (d : Option Den) : DEnv → DSto → DRes (Option Int) := fun ρ st => match d with
  | none => .ok none st
  | some d => (d ρ st).bind fun x st => match x with
    | .int i => .ok (some i) st
    | _ => .bad
def tPt (T : Tb) (W : WX) (d : Option Den) : TO := fun σ H Q => ∃ M ρ st, SOk T M H st ∧ EOk T M H ρ σ ∧ Post T (fun _ _ a b => a = b) W σ M H (dPart d ρ st) Q
theorem po_imp {e : Option Expr} {t t' : TO} (h : PO X e t) (f : ∀ σ H Q, t' σ H Q → t σ H Q) : PO X e t' := ⟨fun pins s σ H Q I q => h.run pins s σ H Q I (f σ H Q q)⟩
theorem pox_none : PO X none (tPt T W none) := po_imp po_none fun σ H Q ⟨M, ρ, st, s, eo, h⟩ => h M none H s .refl rfl
theorem pox_some {e : Expr} {d : Den} (h : PX X T W e d) : PO X (some e) (tPt T W (some d)) := po_imp (po_some h) fun σ H Q ⟨M, ρ, st, s, eo, h⟩ =>
  ⟨M, ρ, st, s, eo, (Post.bind (R := RV T) h).mono fun v H1 ⟨M1, x, st1, s1, x1, r1, h1⟩ => by
    cases x with
    | int i => simp only [RV] at r1; exact ⟨i, r1, h1 M1 _ H1 s1 .refl rfl⟩
    | _ => exact h1.elim⟩
def cutD (xs : List D) (lo hi : Option Int) : List D := (xs.drop (HT.sIx xs.length 0 lo)).take (HT.sIx xs.length xs.length hi - HT.sIx xs.length 0 lo)
def slO (x : D) (lo hi : Option Int) (st : DSto) : Option (D × DSto) := match x with
  | .str z => if z.length ≤ sizeLine then some (.str (cutS z lo hi), st) else none
  | .tup xs => some (.tup (cutD xs lo hi), st)
  | .scr ns => some (.lst (cutD (ns.map D.int) lo hi), st)
  | x => (lstD x st).map fun xs => (.lst (cutD xs lo hi), st)
def dSl (d : Den) (lo hi : Option Den) : Den := fun ρ st => (d ρ st).bind fun x st => (dPart lo ρ st).bind fun l st => (dPart hi ρ st).bind fun h st => ofO (slO x l h st)
theorem cut_rvs {xs : List D} {vs : List V} (r : RVs T M H xs vs) (lo hi : Option Int) : RVs T M H (cutD xs lo hi) (cutV vs lo hi) := by
  unfold cutD cutV
  rw [r.len]
  exact (r.drop _).take _
theorem cut_whole {xs : List D} {lo hi : Option Int} (h : HT.sIx xs.length 0 lo = 0 ∧ HT.sIx xs.length xs.length hi = xs.length) : cutD xs lo hi = xs := by
  unfold cutD
  rw [h.1, h.2]
  simp
theorem px_slice {e : Expr} {lo hi : Option Expr} {p2 : Pos} {d : Den} {dl dh : Option Den} (hK : X.K = T.K) (he : PX X T W e d) (hl : PO X lo (tPt T W dl)) (hh : PO X hi (tPt T W dh)) : PX X T W (.Subscript e (.Slice lo hi none p2) pos) (dSl d dl dh) :=
  pe_imp (pe_slice (sl_list.or (sl_str.or sl_tupA)) he hl hh) fun σ H Q ⟨M, ρ, st, s, eo, h⟩ =>
    ⟨M, ρ, st, s, eo, (Post.bind (R := RV T) h).mono fun v H1 ⟨M1, x, st1, s1, x1, r1, h1⟩ =>
      ⟨M1, ρ, st1, s1, eo.ex x1, (Post.bind (R := fun _ _ a b => a = b) h1).mono fun l H2 ⟨M2, l', st2, s2, x2, e2, h2⟩ =>
        ⟨M2, ρ, st2, s2, (eo.ex x1).ex x2, (Post.bind (R := fun _ _ a b => a = b) h2).mono fun u H3 ⟨M3, u', st3, s3, x3, e3, h3⟩ => by
          subst e2 e3
          have r3 := (r1.ex x2).ex x3
          have h3 := PostO.of h3
          cases x with
          | str z =>
            simp only [slO] at h3
            by_cases hz : z.length ≤ sizeLine
            · rw [if_pos hz] at h3
              simp only [RV] at r3; subst r3
              exact .inr (.inl ⟨z, rfl, hz, PostO.fin s3 (by simp [RV]) h3⟩)
            · rw [if_neg hz] at h3; exact h3.elim
          | tup xs =>
            have r4 := r3
            simp only [RV] at r3
            obtain ⟨a, vs, rfl, _, e4, rr⟩ := r3
            refine .inr (.inr ⟨a, vs, rfl, SqT.of e4, fun hw => ?_, fun hw p hp => ?_⟩)
            · rw [rr.len] at hw
              simp only [slO, cut_whole hw] at h3
              exact PostO.fin s3 r4 h3
            · obtain ⟨a1, a2, a3⟩ := upd_tup_ok s3 (cut_rvs rr l' u') hp
              exact h3 _ _ _ a1 a2 a3
          | ref n =>
            cases q : lstD (.ref n) st3 with
            | none => simp only [slO, q] at h3; exact h3.elim
            | some xs =>
              simp only [slO, q, Option.map_some] at h3
              obtain ⟨a, vs, rfl, e5, rr⟩ := lstD_of s3 r3 q
              exact .inl ⟨a, vs, rfl, SqL.of e5, fun p hp => lst_fin s3 hp (cut_rvs rr l' u') h3⟩
          | lst zs =>
            cases q : lstD (.lst zs) st3 with
            | none => simp only [slO, q] at h3; exact h3.elim
            | some xs =>
              simp only [slO, q, Option.map_some] at h3
              obtain ⟨a, vs, rfl, e5, rr⟩ := lstD_of s3 r3 q
              exact .inl ⟨a, vs, rfl, SqL.of e5, fun p hp => lst_fin s3 hp (cut_rvs rr l' u') h3⟩
          | scr ns =>
            simp only [RV] at r3
            obtain ⟨a, rfl, e4⟩ := r3
            exact .inl ⟨a, _, rfl, by rw [hK]; exact sqL_scr (M := M3) e4, fun p hp => lst_fin s3 hp (cut_rvs (rvs_ints ns) l' u') h3⟩
          | _ => exact h3.elim⟩⟩⟩
def setLO : SetD := fun o i v st => match o, i with
  | .ref n, .int k => match st[n]? with
    | some (.lst xs) => (ixN xs.length k).map fun j => st.set n (.lst (xs.set j v))
    | _ => none
  | _, _ => none
theorem sx_lst : SetX X T setLO := pset_imp set_list fun o i v H Q ⟨M, od, id, d, st, s, r1, r2, r3, h⟩ => by
  unfold setLO at h
  cases od with
  | ref n =>
    cases id with
    | int k =>
      simp only [RV] at r2; subst r2
      dsimp only at h
      cases q : st[n]? with
      | none => simp only [q] at h; exact h.elim
      | some ob =>
        cases ob with
        | lst xs =>
          simp only [q] at h
          obtain ⟨a, vs, rfl, e, e1, rr⟩ := lst_of s r1 q
          cases q2 : ixN xs.length k with
          | none => simp only [q2] at h; exact h.elim
          | some j =>
            simp only [q2, Option.map_some] at h
            have x3 : Ex M H M (upd H a (.lst (vs.set j v))) := ex_write (List.mem_of_getElem? e)
            exact ⟨a, vs, k, j, rfl, rfl, e1, by rw [rr.len]; exact q2, h M _ (sok_write s e ⟨_, upd_same, (rr.set j r3).ex x3⟩) x3⟩
        | _ => simp only [q] at h; exact h.elim
    | _ => exact h.elim
  | _ => exact h.elim

/-! ### methods of built-in types -/
abbrev OpM := D → List D → DSto → Option (D × DSto)
/-- xs.append(e) -/
def dApp (o e : Den) : Den := fun ρ st => (o ρ st).bind fun x st => match x with
  | .ref n => match st[n]? with
    | some (.lst _) => (e ρ st).bind fun y st => match st[n]? with
      | some (.lst xs) => if xs.length < sizeLine then .ok .non (st.set n (.lst (xs ++ [y]))) else .bad
      | _ => .bad
    | _ => .bad
  | _ => .bad
theorem px_app {o e : Expr} {od ed : Den} {apos cpos : Pos} (ho : PX X T W o od) (he : PX X T W e ed) (hs : starEach [e] X.env = (false, eval e X.env) :: starEach [] X.env := by rfl)
    (hbase : attributeBase o "append" X.env (eval o X.env) = eval o X.env := by rfl)
    (hfew : ((backTo cpos (starEach [e] X.env)).all (fun x => !x.1) && (backToKw cpos (keywordEach [] X.env)).all (fun x => x.1.isSome) && decide ([e].length + ([] : List Keyword).length + (if ([] : List Keyword).isEmpty then 0 else 1) < 30)) = true := by rfl)
    (hline : (apos.endLine == cpos.line) = true := by rfl) (hplain : (backTo cpos (starEach [] X.env)).any (·.1) = false := by rfl) : PX X T W (.Call (.Attribute o "append" apos) [e] [] cpos) (dApp od ed) :=
  pe_imp (pe_bm PySem.F.plainAttrs_list PySem.F.slot_list_append PySem.F.type_list_append mt_append ho (pa_cons he pa_nil hs) hbase hfew hline hs hplain) fun σ H Q ⟨M, ρ, st, s, eo, h⟩ =>
    ⟨M, ρ, st, s, eo, (Post.bind (R := RV T) h).mono fun v H1 ⟨M1, x, st1, s1, x1, r1, h1⟩ => by
      cases x with
      | ref n =>
        dsimp only at h1
        cases q : st1[n]? with
        | none => simp only [q] at h1; exact h1.elim
        | some ob =>
          cases ob with
          | lst ys =>
            simp only [q] at h1
            obtain ⟨a, vs, rfl, e0, e1, rr⟩ := lst_of s1 r1 q
            refine ⟨.inl ⟨rfl, vs, SqL.of e1⟩, M1, ρ, st1, s1, eo.ex x1, (Post.bind (R := RV T) h1).mono fun w H2 ⟨M2, y, st2, s2, x2, r2, h2⟩ => ?_⟩
            cases q2 : st2[n]? with
            | none => simp only [q2] at h2; exact h2.elim
            | some ob2 =>
              cases ob2 with
              | lst xs =>
                simp only [q2] at h2
                by_cases hz : xs.length < sizeLine
                · rw [if_pos hz] at h2
                  obtain ⟨a', ws, ea, e3, e4, rr2⟩ := lst_of s2 (r1.ex x2) q2
                  cases ea
                  have x3 : Ex M2 H2 M2 (upd H2 a (.lst (ws ++ [w]))) := ex_write (List.mem_of_getElem? e3)
                  exact ⟨a, ws, w, rfl, rfl, e4, by rw [rr2.len]; exact hz, h2 M2 _ _ (sok_write s2 e3 ⟨_, upd_same, (rr2.app (RVs.one r2)).ex x3⟩) x3 (by simp [RV])⟩
                · rw [if_neg hz] at h2; exact h2.elim
              | _ => simp only [q2] at h2; exact h2.elim
          | _ => simp only [q] at h1; exact h1.elim
      | _ => exact h1.elim⟩
def strsD : List D → Option (List Str)
  | [] => some []
  | .str i :: r => (strsD r).map (i :: ·)
  | _ => none
theorem strsD_ok : ∀ {xs : List D} {vs : List V} {ns : List Str}, strsD xs = some ns → RVs T M H xs vs → vs = ns.map V.str
  | [], vs, ns, h, r => by simp only [strsD, Option.some.injEq] at h; subst h; simpa [RVs] using r
  | .str i :: xs, vs, ns, h, r => by
    simp only [strsD, Option.map_eq_some_iff] at h
    obtain ⟨ms, h, rfl⟩ := h
    simp only [RVs, RV] at r
    obtain ⟨v, ws, rfl, rfl, r2⟩ := r
    rw [strsD_ok h r2]; rfl
/-- sep.join(xs) -/
def joinO (x y : D) (st : DSto) : Option (D × DSto) := match x with
  | .str a => ((itemsD y st).bind strsD).bind fun ys => if (ys.map (·.length)).sum + ys.length * a.length ≤ 16777216 then some (.str (Txt.join a ys), st) else none
  | _ => none
def dJoin (o e : Den) : Den := fun ρ st => (o ρ st).bind fun x st => match x with
  | .str a => (e ρ st).bind fun y st => ofO (joinO (.str a) y st)
  | _ => .bad
theorem px_join {o e : Expr} {od ed : Den} {apos : Pos} (hK : X.K = T.K) (ho : PX X T W o od) (he : PX X T W e ed) (hs : starEach [e] X.env = [(false, eval e X.env)] := by rfl) (hbase : attributeBase o "join" X.env (eval o X.env) = eval o X.env := by rfl) (hline : (apos.endLine == pos.line) = true := by rfl) :
    PX X T W (.Call (.Attribute o "join" apos) [e] [] pos) (dJoin od ed) :=
  pe_imp (pe_join ho he hs hbase hline) fun σ H Q ⟨M, ρ, st, s, eo, h⟩ =>
    ⟨M, ρ, st, s, eo, (Post.bind (R := RV T) h).mono fun v H1 ⟨M1, x, st1, s1, x1, r1, h1⟩ => by
      cases x with
      | str a =>
        simp only [RV] at r1; subst r1
        refine ⟨⟨a, rfl⟩, M1, ρ, st1, s1, eo.ex x1, (Post.bind (R := RV T) h1).mono fun w H2 ⟨M2, y, st2, s2, x2, r2, h2⟩ => ?_⟩
        have h2 := PostO.of h2
        simp only [joinO] at h2
        cases q : itemsD y st2 with
        | none => simp only [q, Option.bind_none] at h2; exact h2.elim
        | some xs =>
          simp only [q, Option.bind_some] at h2
          cases q2 : strsD xs with
          | none => simp only [q2, Option.bind_none] at h2; exact h2.elim
          | some ys =>
            simp only [q2, Option.bind_some] at h2
            by_cases hz : (ys.map (·.length)).sum + ys.length * a.length ≤ 16777216
            · rw [if_pos hz] at h2
              obtain ⟨p, ws, rfl, rr, sq⟩ := items_of hK s2 r2 q
              rw [strsD_ok q2 rr] at sq
              exact ⟨a, p, ys, rfl, rfl, sq, hz, PostO.fin s2 (by simp [RV]) h2⟩
            · rw [if_neg hz] at h2; exact h2.elim
      | _ => exact h1.elim⟩

/-! ### isinstance -/
/-- what isinstance asks of a class -/
structure ClsI (K : PySem.W.Frag) (C : Addr) : Prop where
  ha : PySem.W.findIn K (.ref C) "__class__" = some (some (.builtin "object.__class__"))
  hn : PySem.W.specialIn K (.builtin "object.__class__") "__get__" = some (some (.builtin "getset_descriptor.__get__"))
  htk : PySem.W.takesIn K (.builtin "object.__class__") = some true
  hm : PySem.W.mroIn K C (.type "object") = some true
def tyName (x : D) (st : DSto) : Option String := match x with
  | .non => some "NoneType"
  | .bl _ => some "bool"
  | .int _ => some "int"
  | .str _ => some "str"
  | .tup _ => some "tuple"
  | .lst _ => some "list"
  | .ref n => match st[n]? with
    | some (.lst _) => some "list"
    | _ => none
  | _ => none
/-- isinstance(e, bool): of flat data, tuples, lists, dicts -/
def dIsTy (ty : String) (d : Den) : Den := fun ρ st => (d ρ st).bind fun x st => match tyName x st with
  | some a => match kitB a ty with
    | some b => .ok (.bl b) st
    | none => .bad
  | none => .bad
theorem ty_of {d : D} {v : V} {a : String} (s : SOk T M H st) (r : RV T M H d v) (h : tyName d st = some a) (K : PySem.W.Frag) : TyX K H v (.type a) := by
  cases d with
  | non => simp only [RV] at r; subst r; cases h; exact .base .non
  | bl b => simp only [RV] at r; subst r; cases h; exact .base (.bl b)
  | int b => simp only [RV] at r; subst r; cases h; exact .base (.int b)
  | str b => simp only [RV] at r; subst r; cases h; exact .base (.str b)
  | tup b => simp only [RV] at r; obtain ⟨a, vs, rfl, _, e, _⟩ := r; cases h; exact .base (.tup e)
  | lst b => simp only [RV] at r; obtain ⟨a, vs, rfl, _, e, _⟩ := r; cases h; exact .base (.lst e)
  | dct t b => cases h
  | ins c b => cases h
  | exv c b => cases h
  | ref n =>
    simp only [tyName] at h
    cases q : st[n]? with
    | none => rw [q] at h; cases h
    | some o =>
      rw [q] at h
      simp only [RV] at r
      obtain ⟨a, rfl, e⟩ := r
      have ro := s.ro n o a q e
      cases o with
      | lst xs => cases h; obtain ⟨vs, e1, _⟩ := ro; exact .base (.lst e1)
      | _ => cases h
  | scr ns => cases h
theorem px_isTy {e : Expr} {d : Den} {x : Str} {ty : String} {p p2 : Pos} (hm : X.mg "isinstance" = none) (hm2 : X.mg x = none) (he : PX X T W e d) (hv2 : bootBuiltins x = some (.type ty) := by decide +kernel) (hg2 : Gl X x := by rfl) (hn2 : x ≠ "__name__" := by decide) (hd2 : (x == ("__debug__" : Str)) = false := by decide)
    (hg : Gl X "isinstance" := by rfl) (hs : starEach [e, .Name x p2] X.env = (false, eval e X.env) :: starEach [.Name x p2] X.env := by rfl) (hs2 : starEach [.Name x p2] X.env = (false, eval (.Name x p2) X.env) :: starEach [] X.env := by rfl)
    (hpl : (backTo pos (starEach [.Name x p2] X.env)).any (·.1) = false := by rfl) : PX X T W (.Call (.Name "isinstance" p) [e, .Name x p2] [] pos) (dIsTy ty d) :=
  pe_imp (pe_callB call_isi hg hm (by decide +kernel) (pa_cons he (pa_cons (pe_bltn (v := .ty ty) hg2 hm2 hv2 rfl hn2 hd2) pa_nil hs2) hs) (by decide) (by decide) hs hpl) fun σ H Q ⟨M, ρ, st, s, eo, h⟩ =>
    ⟨M, ρ, st, s, eo, (Post.bind (R := RV T) h).mono fun v H1 ⟨M1, y, st1, s1, x1, r1, h1⟩ => by
      cases q : tyName y st1 with
      | none => simp only [q] at h1; exact h1.elim
      | some a =>
        simp only [q] at h1
        cases q2 : kitB a ty with
        | none => simp only [q2] at h1; exact h1.elim
        | some b =>
          simp only [q2] at h1
          exact ⟨v, .ty ty, .type a, .type ty, b, rfl, .ty ty, ty_of s1 r1 q _, kit_ty q2, h1 M1 _ H1 s1 .refl (by simp [RV])⟩⟩
/-- isinstance(e, C) of an instance of the class c -/
def dIsC (c : Nat) (b : Bool) (d : Den) : Den := fun ρ st => (d ρ st).bind fun x st => if isIns c x st = true then .ok (.bl b) st else .bad
theorem px_isC {e : Expr} {d : Den} {x : Str} {c : Nat} {C C2 : Addr} {b : Bool} {p p2 : Pos} (hF : Fits X T W) (hC : T.CT[c]? = some C) (hI : ClsI X.K C) (hkit : PySem.W.kitOne X.K (.ref C) (.ref C2) = some b) (hm : X.mg "isinstance" = none) (hm2 : X.mg x = some (.ref C2)) (he : PX X T W e d)
    (hg2 : Gl X x := by rfl) (hd2 : (x == ("__debug__" : Str)) = false := by decide)
    (hg : Gl X "isinstance" := by rfl) (hs : starEach [e, .Name x p2] X.env = (false, eval e X.env) :: starEach [.Name x p2] X.env := by rfl) (hs2 : starEach [.Name x p2] X.env = (false, eval (.Name x p2) X.env) :: starEach [] X.env := by rfl)
    (hpl : (backTo pos (starEach [.Name x p2] X.env)).any (·.1) = false := by rfl) : PX X T W (.Call (.Name "isinstance" p) [e, .Name x p2] [] pos) (dIsC c b d) :=
  pe_imp (pe_callB call_isi hg hm (by decide +kernel) (pa_cons he (pa_cons (pe_glob (v := .ref C2) hg2 hm2 rfl hd2) pa_nil hs2) hs) (by decide) (by decide) hs hpl) fun σ H Q ⟨M, ρ, st, s, eo, h⟩ =>
    ⟨M, ρ, st, s, eo, (Post.bind (R := RV T) h).mono fun v H1 ⟨M1, y, st1, s1, x1, r1, h1⟩ => by
      by_cases hi : isIns c y st1 = true
      · rw [if_pos hi] at h1
        obtain ⟨fs, q⟩ := isIns_of hi
        obtain ⟨a, C', dx, vs, rfl, g2, g3, g4, g5⟩ := ins_of s1 r1 q
        rw [hC] at g2; cases g2
        rw [← hF.K] at g3
        exact ⟨_, .ref C2, .ref C, .ref C2, b, rfl, .own C2, .base (.ins g4 g3 hI.ha hI.hn hI.htk hI.hm), hkit, h1 M1 _ H1 s1 .refl (by simp [RV])⟩
      · rw [if_neg hi] at h1; exact h1.elim⟩
end
end FV

set_option Elab.async false
set_option linter.all false
set_option maxRecDepth 100000
set_option maxHeartbeats 4000000
namespace FV
open PySem PySem.Spec PyProof.Rows L2

def ofR : DRes D → Option (D × DSto)
  | .ok d st => some (d, st)
  | _ => none
section
variable {X : Cx} {T : Tb} {M : Mu} {H : Hp} {st : DSto} {k : Nat} {f C : Addr} {G : FnD} {pins : List (Addr × Obj)} {σ : L2.St} {s : Shared}
/-- a def of one's own run inside an operator: it raises nothing -/
theorem run_own {A : Around} {Q : VK} {E' : Value → Shared → Prop} {us : List Value} {vs : List V} {ds : List D} (F : FnR X.prog X.w X.K X.mg X.base (L2.CX X.prog X.w) k f (spR T G)) (hr : Room k A) (hA : A.frames = X.A.frames) (I : Inv X pins σ H s) (r : Vals vs us)
    (so : SOk T M H st) (rv : RVs T M H ds vs) (h : PostO T M H (ofR (G ds st)) Q) : wpAny (model X.prog X.w) A (call (.ref f) us) (EP X pins σ Q) E' s := by
  have e0 : Env0 X.prog X.w X.K X.mg X.base A X.stack s H := ⟨hA.trans I.ok.frames, I.ok.mod, I.bs, Nat.le_trans I.ok.bsz I.sz, I.stack, I.stkFree, I.hok, I.bare⟩
  have hsp : spR T G vs H Q E0 := by
    refine ⟨M, ds, st, so, rv, ?_⟩
    revert h
    generalize G ds st = R
    intro h
    cases R with
    | ok d st' => exact h
    | exc c fs st' => exact h.elim
    | bad => exact h.elim
  refine wpAny_call (codeAny_mono (F A X.stack s H us vs Q E0 hr e0 r hsp) fun r s' hq => ?_)
  cases r with
  | error e =>
    obtain ⟨_, _, _, _, _, _, _, _, _, _, _, _, z⟩ := hq
    exact z.elim
  | ok fl =>
    cases fl with
    | ret u => exact I.after hq
    | next => exact False.elim hq
    | brk => exact False.elim hq
    | cont => exact False.elim hq
/-- an instance of the store, for OpenK's rules -/
theorem inst_of {a dx : Addr} {vs : List (Str × V)} (I : Inv X pins σ H s) (e : H a = some (.ins C dx vs)) : ∃ od, PySem.W.InstAt s.heap a (PySem.W.instObj C dx) C (some od) := by
  obtain ⟨mA, O, _⟩ := ins_get I.hok e
  obtain ⟨od, J, _⟩ := O.look
  exact ⟨od, J⟩
def own2 (c : Nat) (G : FnD) : OpD := fun x y st => if isIns c x st = true ∧ isIns c y st = true then ofR (G [x, y] st) else none
/-- a (op) b by the class's own method, both of the class c -/
theorem ox_own2 {c : Nat} {op : Operator} {m : Str} (hK : X.K = T.K) (hC : T.CT[c]? = some C) (hm : Meth X.K C m f) (hd : PySem.dunder op.info.2 = m) (hc : PySem.W.selfFirst X.K C = true)
    (F : FnR X.prog X.w X.K X.mg X.base (L2.CX X.prog X.w) k f (spR T G)) (hr : Room k X.A) : OpX X T (binaryOp op) (own2 c G) := fun pins s σ H x y v u Q I rx ry ⟨M, d, e, st, so, r1, r2, h⟩ => by
  unfold own2 at h
  by_cases hi : isIns c d st = true ∧ isIns c e st = true
  · rw [if_pos hi] at h
    obtain ⟨fs1, q1⟩ := isIns_of hi.1
    obtain ⟨fs2, q2⟩ := isIns_of hi.2
    obtain ⟨a, C1, dx1, vs1, rfl, g2, g3, g4, g5⟩ := ins_of so r1 q1
    obtain ⟨b, C2, dx2, vs2, rfl, k2, k3, k4, k5⟩ := ins_of so r2 q2
    rw [hC] at g2 k2; cases g2; cases k2
    obtain rfl : v = Value.ref a := rx
    obtain rfl : u = Value.ref b := ry
    obtain ⟨od1, J1⟩ := inst_of I g4
    obtain ⟨od2, J2⟩ := inst_of I k4
    obtain ⟨mm, Fr0⟩ := I.fr
    subst hd
    refine PySem.W.binop_K Fr0 I.mod.kin J1 J2.type hc hm.at_ hm.fn ?_
    refine thn (run_own (us := [.ref a, .ref b]) (vs := [.ref a, .ref b]) (ds := [d, e]) F hr rfl I (.cons rfl (.cons rfl .nil)) so (by simp only [RVs]; exact ⟨_, _, rfl, r1, _, _, rfl, r2, rfl⟩) h) fun r s' hh => ?_
    obtain ⟨z, H', I', rz, q⟩ := hh
    exact SlX.cmpback rz ⟨z, H', I', rz, q⟩
  · rw [if_neg hi] at h; exact h.elim
/-- .. a comparison -/
theorem ox_ownC {c : Nat} {op : CmpOp} {m : Str} (hK : X.K = T.K) (hC : T.CT[c]? = some C) (hm : Meth X.K C m f) (hd : (cmpInfo op).2.1 = m) (hn : PySem.W.notFirst X.K C (.ref C) = true) (hof : ∀ {M : Model} {A : Around} {E : Value → Shared → Prop} {s : Shared} {a b : Value} {Q : Value → Shared → Prop}, wpAny M A (richCompare op a b) Q E s → wpAny M A (compareOp op a b) Q E s)
    (F : FnR X.prog X.w X.K X.mg X.base (L2.CX X.prog X.w) k f (spR T G)) (hr : Room k X.A) : OpX X T (compareOp op) (own2 c G) := fun pins s σ H x y v u Q I rx ry ⟨M, d, e, st, so, r1, r2, h⟩ => by
  unfold own2 at h
  by_cases hi : isIns c d st = true ∧ isIns c e st = true
  · rw [if_pos hi] at h
    obtain ⟨fs1, q1⟩ := isIns_of hi.1
    obtain ⟨fs2, q2⟩ := isIns_of hi.2
    obtain ⟨a, C1, dx1, vs1, rfl, g2, g3, g4, g5⟩ := ins_of so r1 q1
    obtain ⟨b, C2, dx2, vs2, rfl, k2, k3, k4, k5⟩ := ins_of so r2 q2
    rw [hC] at g2 k2; cases g2; cases k2
    obtain rfl : v = Value.ref a := rx
    obtain rfl : u = Value.ref b := ry
    obtain ⟨od1, J1⟩ := inst_of I g4
    obtain ⟨od2, J2⟩ := inst_of I k4
    obtain ⟨mm, Fr0⟩ := I.fr
    subst hd
    refine hof (PySem.W.cmp_K hr.units0 Fr0 I.mod.kin J1 J2.type hn hm.at_ hm.fn ?_)
    refine thn (run_own (us := [.ref a, .ref b]) (vs := [.ref a, .ref b]) (ds := [d, e]) F hr rfl I (.cons rfl (.cons rfl .nil)) so (by simp only [RVs]; exact ⟨_, _, rfl, r1, _, _, rfl, r2, rfl⟩) h) fun r s' hh => ?_
    obtain ⟨z, H', I', rz, q⟩ := hh
    exact SlX.cmpback rz ⟨z, H', I', rz, q⟩
  · rw [if_neg hi] at h; exact h.elim
/-- a (op) n, n an int -/
def ownI (c : Nat) (G : FnD) : OpD := fun x y st => match y with
  | .int _ => if isIns c x st = true then ofR (G [x, y] st) else none
  | _ => none
theorem ox_ownI {c : Nat} {op : Operator} {m : Str} {fo ro rc : Option Value} (hK : X.K = T.K) (hC : T.CT[c]? = some C) (hm : Meth X.K C m f) (hd : PySem.dunder op.info.2 = m) (hc : PySem.W.selfFirst X.K C = true)
    (hr1 : PySem.W.findIn X.K (.ref C) (dunderR op.info.2) = some rc) (hp : rc = none ∨ ∃ g : Addr, rc = some (.ref g)) (h1 : PySem.W.findIn X.K (.type "int") (PySem.dunder op.info.2) = some fo) (h2 : PySem.W.findIn X.K (.type "int") (dunderR op.info.2) = some ro) (hsub : PySem.W.subIn X.K (.type "int") (.ref C) = some false)
    (F : FnR X.prog X.w X.K X.mg X.base (L2.CX X.prog X.w) k f (spR T G)) (hr : Room k X.A) : OpX X T (binaryOp op) (ownI c G) := fun pins s σ H x y v u Q I rx ry ⟨M, d, e, st, so, r1, r2, h⟩ => by
  unfold ownI at h
  cases e with
  | int j =>
    dsimp only at h
    by_cases hi : isIns c d st = true
    · rw [if_pos hi] at h
      obtain ⟨fs1, q1⟩ := isIns_of hi
      obtain ⟨a, C1, dx1, vs1, rfl, g2, g3, g4, g5⟩ := ins_of so r1 q1
      rw [hC] at g2; cases g2
      obtain rfl : v = Value.ref a := rx
      have r2' := r2
      simp only [RV] at r2'
      subst r2'
      obtain ⟨t, rfl⟩ := id ry
      obtain ⟨od1, J1⟩ := inst_of I g4
      obtain ⟨mm, Fr0⟩ := I.fr
      subst hd
      refine PySem.W.ksp_binT (T := "int") Fr0 I.mod.kin J1 rfl hc hm.at_ hm.fn hr1 hp h1 h2 hsub ?_
      refine thn (run_own (us := [.ref a, .int j t]) (vs := [.ref a, .int j]) (ds := [d, .int j]) F hr rfl I (.cons rfl (.cons ⟨t, rfl⟩ .nil)) so (by simp only [RVs]; exact ⟨_, _, rfl, r1, _, _, rfl, r2, rfl⟩) h) fun r s' hh => ?_
      obtain ⟨z, H', I', rz, q⟩ := hh
      exact SlX.cmpback rz ⟨z, H', I', rz, q⟩
    · rw [if_neg hi] at h; exact h.elim
  | _ => exact h.elim
/-- own first, else the base -/
def orO (c : Nat) (own base : OpD) : OpD := fun x y st => if isIns c x st = true then own x y st else base x y st
theorem ox_or {c : Nat} {F : Value → Value → Sem Value} {own base : OpD} (h1 : OpX X T F own) (h2 : OpX X T F base) : OpX X T F (orO c own base) := fun pins s σ H x y v u Q I rx ry ⟨M, d, e, st, so, r1, r2, h⟩ => by
  unfold orO at h
  by_cases hi : isIns c d st = true
  · rw [if_pos hi] at h; exact h1 pins s σ H x y v u Q I rx ry ⟨M, d, e, st, so, r1, r2, h⟩
  · rw [if_neg hi] at h; exact h2 pins s σ H x y v u Q I rx ry ⟨M, d, e, st, so, r1, r2, h⟩
/-- .. by the right operand -/
def orR (c : Nat) (own base : OpD) : OpD := fun x y st => if isIns c y st = true then own x y st else base x y st
theorem ox_orR {c : Nat} {F : Value → Value → Sem Value} {own base : OpD} (h1 : OpX X T F own) (h2 : OpX X T F base) : OpX X T F (orR c own base) := fun pins s σ H x y v u Q I rx ry ⟨M, d, e, st, so, r1, r2, h⟩ => by
  unfold orR at h
  by_cases hi : isIns c e st = true
  · rw [if_pos hi] at h; exact h1 pins s σ H x y v u Q I rx ry ⟨M, d, e, st, so, r1, r2, h⟩
  · rw [if_neg hi] at h; exact h2 pins s σ H x y v u Q I rx ry ⟨M, d, e, st, so, r1, r2, h⟩
/-- x in o, o of the class c: a bool comes back -/
def ownIn (c : Nat) (G : FnD) : OpD := fun x y st => if isIns c y st = true then (match ofR (G [y, x] st) with
  | some (.bl b, st') => some (.bl b, st')
  | _ => none) else none
theorem ox_ownIn {c : Nat} (hK : X.K = T.K) (hC : T.CT[c]? = some C) (hm : Meth X.K C "__contains__" f) (F : FnR X.prog X.w X.K X.mg X.base (L2.CX X.prog X.w) k f (spR T G)) (hr : Room k X.A) : OpX X T (compareOp .In) (ownIn c G) := fun pins s σ H x y v u Q I rx ry ⟨M, d, e, st, so, r1, r2, h⟩ => by
  unfold ownIn at h
  by_cases hi : isIns c e st = true
  · rw [if_pos hi] at h
    obtain ⟨fs1, q1⟩ := isIns_of hi
    obtain ⟨a, C1, dx1, vs1, rfl, g2, g3, g4, g5⟩ := ins_of so r2 q1
    rw [hC] at g2; cases g2
    obtain rfl : u = Value.ref a := ry
    obtain ⟨od1, J1⟩ := inst_of I g4
    obtain ⟨mm, Fr0⟩ := I.fr
    refine PySem.W.in_K Fr0 I.mod.kin J1 hm.at_ hm.fn ?_
    have h' : PostO T M H (ofR (G [e, d] st)) (fun z H' => ∃ b, z = .bl b ∧ Q (.bl b) H') := by
      revert h
      generalize G [e, d] st = R
      intro h
      cases R with
      | ok z st' =>
        cases z with
        | bl b => exact fun M' v H' s x r => by simp only [RV] at r; exact ⟨b, r, h M' _ H' s x (by simp [RV])⟩
        | _ => exact h.elim
      | exc c fs st' => exact h.elim
      | bad => exact h.elim
    refine thn (run_own (us := [.ref a, v]) (vs := [.ref a, x]) (ds := [e, d]) F hr rfl I (.cons rfl (.cons rx .nil)) so (by simp only [RVs]; exact ⟨_, _, rfl, r2, _, _, rfl, r1, rfl⟩) h') fun r s' hh => ?_
    obtain ⟨z, H', I', rz, b, rfl, q⟩ := hh
    obtain rfl : r = Value.bool b := rz
    exact wpAny_truthy_bool ⟨.bl b, H', I', rfl, q⟩
  · rw [if_neg hi] at h; exact h.elim
/-- len(o) -/
def ownLen (c : Nat) (G : FnD) : OpL := fun ds st => match ds with
  | [x] => if isIns c x st = true then (match ofR (G [x] st) with
    | some (.int n, st') => if 0 ≤ n ∧ n < 2 ^ 63 then some (.int n, st') else none
    | _ => none) else none
  | _ => none
theorem cx_ownLen {c : Nat} (hK : X.K = T.K) (hC : T.CT[c]? = some C) (hm : Meth X.K C "__len__" f) (F : FnR X.prog X.w X.K X.mg X.base (L2.CX X.prog X.w) k f (spR T G)) (hr : Room (k + 1) X.A) : CallX X T (.builtin "len") (ownLen c G) := fun pins s σ H xs us Q I r ⟨M, ds, st, so, rv, h⟩ => by
  unfold ownLen at h
  match ds, h with
  | [d], h =>
    obtain ⟨y, rfl, r1⟩ := rvs1 rv
    dsimp only at h
    by_cases hi : isIns c d st = true
    · rw [if_pos hi] at h
      obtain ⟨fs1, q1⟩ := isIns_of hi
      obtain ⟨a, C1, dx1, vs1, rfl, g2, g3, g4, g5⟩ := ins_of so r1 q1
      rw [hC] at g2; cases g2
      obtain ⟨u, rfl, ru⟩ := vals1 r
      obtain rfl : u = Value.ref a := ru
      obtain ⟨od1, J1⟩ := inst_of I g4
      obtain ⟨mm, Fr0⟩ := I.fr
      refine PySem.W.len_K Fr0 I.mod.kin J1 hm.at_ hm.fn ?_
      have h' : PostO T M H (ofR (G [d] st)) (fun z H' => ∃ n : Int, z = .int n ∧ (0 ≤ n ∧ n < 2 ^ 63) ∧ Q (.int n) H') := by
        revert h
        generalize G [d] st = R
        intro h
        cases R with
        | ok z st' =>
          cases z with
          | int n =>
            simp only [ofR] at h
            by_cases hz : 0 ≤ n ∧ n < 2 ^ 63
            · rw [if_pos hz] at h
              exact fun M' v H' s x r => by simp only [RV] at r; exact ⟨n, r, hz, h M' _ H' s x (by simp [RV])⟩
            · rw [if_neg hz] at h; exact h.elim
          | _ => exact h.elim
        | exc c fs st' => exact h.elim
        | bad => exact h.elim
      refine thn (run_own (A := X.A.in1) (us := [.ref a]) (vs := [.ref a]) (ds := [d]) F hr.in1 rfl I (.cons rfl .nil) so (RVs.one r1) h') fun r s' hh => ?_
      obtain ⟨z, H', I', rz, n, rfl, hz, q⟩ := hh
      obtain ⟨t, rfl⟩ := rz
      exact ⟨hz, .int n, H', I'.tok _, ⟨_, rfl⟩, q⟩
    · rw [if_neg hi] at h; exact h.elim
/-- str(o) -/
def ownStr (c : Nat) (G : FnD) : OpL := fun ds st => match ds with
  | [x] => if isIns c x st = true then (match ofR (G [x] st) with
    | some (.str n, st') => some (.str n, st')
    | _ => none) else none
  | _ => none
theorem cx_ownStr {c : Nat} (hK : X.K = T.K) (hC : T.CT[c]? = some C) (hm : Meth X.K C "__str__" f) (F : FnR X.prog X.w X.K X.mg X.base (L2.CX X.prog X.w) k f (spR T G)) (hr : Room (k + 2) X.A) : CallX X T (.type "str") (ownStr c G) := fun pins s σ H xs us Q I r ⟨M, ds, st, so, rv, h⟩ => by
  unfold ownStr at h
  match ds, h with
  | [d], h =>
    obtain ⟨y, rfl, r1⟩ := rvs1 rv
    dsimp only at h
    by_cases hi : isIns c d st = true
    · rw [if_pos hi] at h
      obtain ⟨fs1, q1⟩ := isIns_of hi
      obtain ⟨a, C1, dx1, vs1, rfl, g2, g3, g4, g5⟩ := ins_of so r1 q1
      rw [hC] at g2; cases g2
      obtain ⟨u, rfl, ru⟩ := vals1 r
      obtain rfl : u = Value.ref a := ru
      obtain ⟨od1, J1⟩ := inst_of I g4
      have hr2 : Room k X.A.in1.in1 := hr.in1.in1
      refine PySem.W.kso_call hr2.units0 I.kIn J1 hm.at_ hm.fn ?_
      have h' : PostO T M H (ofR (G [d] st)) (fun z H' => ∃ n : Str, z = .str n ∧ Q (.str n) H') := by
        revert h
        generalize G [d] st = R
        intro h
        cases R with
        | ok z st' =>
          cases z with
          | str n => exact fun M' v H' s x r => by simp only [RV] at r; exact ⟨n, r, h M' _ H' s x (by simp [RV])⟩
          | _ => exact h.elim
        | exc c fs st' => exact h.elim
        | bad => exact h.elim
      refine thn (run_own (A := X.A.in1.in1) (us := [.ref a]) (vs := [.ref a]) (ds := [d]) F hr2 rfl I (.cons rfl .nil) so (RVs.one r1) h') fun r s' hh => ?_
      obtain ⟨z, H', I', rz, n, rfl, q⟩ := hh
      obtain ⟨t, rfl⟩ := rz
      exact ⟨.str n, H', I', ⟨_, rfl⟩, q⟩
    · rw [if_neg hi] at h; exact h.elim
def orL (c : Nat) (own base : OpL) : OpL := fun ds st => match ds with
  | [x] => if isIns c x st = true then own ds st else base ds st
  | _ => base ds st
theorem cx_or {c : Nat} {f : Value} {own base : OpL} (h1 : CallX X T f own) (h2 : CallX X T f base) : CallX X T f (orL c own base) := fun pins s σ H xs us Q I r ⟨M, ds, st, so, rv, h⟩ => by
  unfold orL at h
  split at h
  · split at h
    · exact h1 pins s σ H xs us Q I r ⟨M, _, st, so, rv, h⟩
    · exact h2 pins s σ H xs us Q I r ⟨M, _, st, so, rv, h⟩
  · exact h2 pins s σ H xs us Q I r ⟨M, _, st, so, rv, h⟩
end
end FV

set_option Elab.async false
set_option linter.all false
set_option maxRecDepth 100000
set_option maxHeartbeats 4000000
namespace FV
open PySem PySem.Spec PyProof.Rows L2

/-- what a method that hands back iter(self.f) does, told of the state that it is called in -/
def IterFn (P : Program) (w : World) (K : PySem.W.Frag) (mg : Str → Option Value) (base : Heap) (k : Nat) (f C : Addr) (fld : Str) : Prop :=
  ∀ (A : Around) (outer : List Env) (s : Shared) (H : Hp) (a l dx : Addr) (vs : List (Str × V)) (zs : List V) (Q : VK), Room k A → Env0 P w K mg base A outer s H → H a = some (.ins C dx vs) → Cls K C → NoAttr K C fld →
    vs.lookup fld = some (.ref l) → SqL K H l zs → (∀ it, H it = none → s.heap.objs.size ≤ it → Q (.ref it) (upd H it (ItO l it 0))) →
    codeAny (model P w) A (.call (.ref f) ⟨[.ref a], []⟩) (CR CX0 outer P w H s Q E0) s
section
variable {P : Program} {w : World} {K : PySem.W.Frag} {mg : Str → Option Value} {base : Heap} {k : Nat} {f C : Addr} {fd : FuncData} {x qual fld : Str} {st : Stmt} {p1 p2 p3 p4 p5 : Pos}
theorem iterFn_of (F : Fun K x qual st f fd) (S : FnScope ["self"] ["self"] (defScope st)) (hb : Binds K fd ["self"] []) (hm : mg "iter" = none) (hg : (defScope st).names.lookup ("iter" : Str) = some .globalImplicit)
    (hbd : defBody st = [.Return (some (.Call (.Name "iter" p1) [.Attribute (.Name "self" p2) fld p3] [] p4)) p5]) : IterFn P w K mg base (k + 1) f C fld := by
  intro A outer s H a l dx vs zs Q hr e0 ha c na hl sq hq
  obtain ⟨oc, od, kV, doc, pm, an, cdv, ct, osl, rfl, lk, hcd⟩ := F.ex
  have KX : K.In s.heap := e0.mod.kin.keeps fun b o z => (e0.bs b o z).1
  have hpar := S.par "self" (List.Mem.head _)
  refine codeAny_call_function hr.depth (KX _ _ lk) rfl S.co S.gen rfl (PySem.W.codeRec_of KX hcd) (hb s [.ref a] KX rfl _ _ _ _ ?_)
  refine wpAny_newFunctionEnv_cells S.kind (fun y hy => ?_) fun env he s1 z => ?_
  · obtain rfl : y = (("self" : Str), Value.ref a) := by simpa using hy
    exact hpar.imp id fun q => ⟨q, PySem.W.cellsFrom_some _ _ _ (.inl q)⟩
  subst he
  refine ⟨(e0.mod.nolimit.keeps fun b o z => (e0.bs b o z).1).keeps z.toInCall.keep, codeAny_func ?_⟩
  have I : Inv (cxOf CX0 P w K mg base ["self"] qual (defScope st) f cdv A outer s H E0) [] (start ["self"] [.ref a]) H s1 := inv_start (vs := [.ref a]) (us := [.ref a]) S hr.hd e0 rfl (.cons rfl .nil) z
  have body : PSs (cxOf CX0 P w K mg base ["self"] qual (defScope st) f cdv A outer s H E0) (defBody st) (tRet (tCB (ItX.rIterN K s.heap.objs.size) (tCons (tFld K (tVar 0) fld) tNil))) := by
    rw [hbd]
    exact pss_one (ps_ret (pe_callB ItX.call_iterN hg hm (by decide +kernel) (pa_cons (pe_fld (pe_var (i := 0) rfl (hpar.imp id .inl)) rfl) pa_nil) (by decide) (by decide)))
  refine wpAny_mono (body.run [] s1 _ H { nx := fun _ H' => Q .non H', rt := Q } I ⟨.ref a, rfl, a, C, dx, vs, .ref l, rfl, ha, c, na, hl, l, zs, rfl, sq, hq⟩) (fun fl s' hs => ?_) fun e s' hs => hs
  have fin : ∀ {σ' : L2.St} {H' : Hp} {v : V} {u : Value}, Inv (cxOf CX0 P w K mg base ["self"] qual (defScope st) f cdv A outer s H E0) [] σ' H' s' → RelV v u → Q v H' → CE outer P w H s Q u s' := fun {σ' H' v u} J rv q => ⟨v, H', J.os, J.bare, J.base, J.hok, rv, q⟩
  cases fl with
  | ret u => obtain ⟨v, σ', H', J, rv, q⟩ := hs; exact fin J rv q
  | next => obtain ⟨σ', H', J, q⟩ := hs; exact fin (v := V.non) (u := Value.none) J rfl q
  | brk => obtain ⟨_, _, _, q⟩ := hs; exact q.elim
  | cont => obtain ⟨_, _, _, q⟩ := hs; exact q.elim
end
/-- a list that is walked: by value, or of the store -/
def iterL (x : D) (st : DSto) : Option (List D × Chk) := match x with
  | .lst xs => some (xs, [])
  | .ref m => match st[m]? with
    | some (.lst xs) => some (xs, [(m, .lst xs)])
    | _ => none
  | _ => none
theorem iterL_of {T : Tb} {M : Mu} {H : Hp} {st : DSto} {x : D} {p : List D × Chk} {v : V} (s : SOk T M H st) (r : RV T M H x v) (q : iterL x st = some p) : ∃ a zs, v = .ref a ∧ SqL T.K H a zs ∧ IterOk T M H p (Itl T.K a) := by
  unfold iterL at q
  cases x with
  | lst xs =>
    cases q
    simp only [RV] at r
    obtain ⟨a, vs, rfl, f, e1, rr⟩ := r
    exact ⟨a, vs, rfl, SqL.of e1, iterOk_lst fun M2 st2 H2 x2 s2 k2 => ⟨vs, rr.mo x2, SqL.of (x2.by_ _ _ e1 f).1⟩⟩
  | ref m =>
    cases q1 : st[m]? with
    | none => simp only [q1] at q; cases q
    | some o =>
      cases o with
      | lst xs =>
        simp only [q1] at q
        cases q
        obtain ⟨a, vs, rfl, em, e1, rr⟩ := lst_of s r q1
        exact ⟨a, vs, rfl, SqL.of e1, iterOk_lst fun M2 st2 H2 x2 s2 k2 => sqL_of (s2.ro m _ a (chk_one k2) (x2.get _ _ em))⟩
      | _ => simp only [q1] at q; cases q
  | _ => cases q
/-- an object whose __iter__ hands back iter(self.f), f a list -/
def dIOwn (c i : Nat) (d : Den) : DenI := fun ρ st => (d ρ st).bind fun x st => if isIns c x st = true then (match fldD i x st with
  | .ok y st => match iterL y st with
    | some p => .ok p st
    | none => .bad
  | _ => .bad) else .bad
section
variable {X : Cx} {T : Tb} {W : WX} {tg e : Expr} {d : Den} {k : Nat} {f C : Addr} {fld : Str}
theorem pix_own {c i : Nat} (hF : Fits X T W) (hC : T.CT[c]? = some C) (hn : T.FT[i]? = some fld) (hm : Meth X.K C "__iter__" f) (F : IterFn X.prog X.w X.K X.mg X.base k f C fld) (hr : Room k X.A) (h : PX X T W e d) : PIX X T W tg e (dIOwn c i d) := by
  refine ⟨fun pins s σ H R I ⟨M, ρ, st, so, eo, h0⟩ => ?_⟩
  refine thn (h.run pins s σ H _ I ⟨M, ρ, st, so, eo, Post.bind (R := RV T) h0⟩) fun v s1 ⟨y, H1, I1, ry, M1, x, st1, s1', x1, r1, h1⟩ => ?_
  by_cases hi : isIns c x st1 = true
  · rw [if_pos hi] at h1
    obtain ⟨fs, q⟩ := isIns_of hi
    obtain ⟨a, C1, dx, vs, rfl, g2, g3, g4, g5⟩ := ins_of s1' r1 q
    rw [hC] at g2; cases g2
    simp only [fldD, q] at h1
    cases qf : getN i fs with
    | none => simp only [qf] at h1; exact h1.elim
    | some z =>
      simp only [qf] at h1
      cases qm : iterL z st1 with
      | none => simp only [qm] at h1; exact h1.elim
      | some pp =>
            simp only [qm] at h1
            obtain ⟨w, l1, rw', na⟩ := fs_get g5 hn qf
            obtain ⟨l, zs, rfl, el, it0⟩ := iterL_of s1' rw' qm
            rw [← hF.K] at el
            rw [← hF.K] at g3 na
            obtain rfl : v = Value.ref a := ry
            obtain ⟨od1, J1⟩ := inst_of I1 g4
            obtain ⟨mm, Fr0⟩ := I1.fr
            refine PySem.W.owit_iter Fr0 I1.mod.kin J1 hm.at_ hm.fn ?_
            refine wpAny_call (codeAny_mono (F X.A X.stack s1 H1 a l dx vs zs (fun v H' => ∃ it, v = .ref it ∧ s1.heap.objs.size ≤ it ∧ H1 it = none ∧ H' = upd H1 it (ItO l it 0)) hr I1.env0 g4 g3 na l1 el fun it h1 h2 => ⟨it, rfl, h2, h1, rfl⟩) fun r s' hq => ?_)
            cases r with
            | error er => exact False.elim hq
            | ok fl =>
              cases fl with
              | ret u =>
                obtain ⟨v', H', I2, rv, it, rfl, hsz, hnone, rfl⟩ := I1.after hq
                obtain rfl : u = Value.ref it := rv
                have hit : (upd H1 it (ItO l it 0)) it = some (ItO l it 0) := upd_same
                have eo' := itO_get I2 hit
                have stt : s'.heap.IsListIter it l 0 := ⟨_, eo', rfl, rfl⟩
                show PySem.W.OwitIt _ _ _ _ _ _
                unfold PySem.W.OwitIt
                refine wpAny_specialOf (name := Str.ofString "__next__") (T := "list_iterator") ⟨_, eo', rfl⟩ slot_listiter_next.lookup ?_
                have hd := ItX.dropH_upd (o := ItO l it 0) hnone
                have I3 := ItX.inv_drop (φ := fun h => h.get? it = some (GNX.itObj l 0)) I2 hit
                have hf := ItX.inv_fp I2 hit (Nat.le_trans I1.sz hsz)
                rw [hd] at I3 hf
                refine ⟨it, [it], _, Itl X.K l, H1, rfl, I3, turn_list l it, stt, fun b hb => ?_, h1 M1 _ H1 s1' .refl ?_⟩
                · rw [List.mem_singleton.mp hb]; exact hf
                · rw [hF.K]; exact it0
              | next => exact False.elim hq
              | brk => exact False.elim hq
              | cont => exact False.elim hq
  · rw [if_neg hi] at h1; exact h1.elim
end
end FV

set_option Elab.async false
set_option linter.all false
set_option maxRecDepth 100000
set_option maxHeartbeats 4000000
namespace PySem.W
open PySem PySem.Calls PyProof.Rows Builtin
theorem fw_intmul {prog : Program} {w : World} {A : Around} {E : Value → Shared → Prop} {s : Shared} {n : Int} {t : Tok} {b C : Addr} {ox : Obj} {od : Option Obj} {Q : Value → Shared → Prop} (J : InstAt s.heap b ox C od) (hd : ox.data = .plain)
    (L : Looks (model prog w) s.heap (isSubtype (.ref C) (.type "int")) false) (h : Q .notImplemented s) : wpAny (model prog w) A (call (.builtin "int.__mul__") [.int n t, .ref b]) Q E s := by
  refine wpAny_call (codeAny_call_builtin F.slot_int_mul.plain F.entry_int_mul (F.slot_int_mul.check _ _ _ _ _ _ _ _ (typeIs_int s n t) (F.args_int_mul_2 _ _) ?_))
  have J0 := J
  have hat := J.at_
  have L1 : Looks (model prog w) s.heap (typeOf (.ref b)) (.ref C) := J.type
  obtain ⟨hp, g, d, tk, os⟩ := s
  dsimp only at hat L1 L
  unfold Builtin.«int.__mul__» Builtin.Int.intBinary
  repeat lk
  rw [hd]
  repeat lk
  exact h
theorem fw_refl {prog : Program} {w : World} {A : Around} {E : Value → Shared → Prop} {s : Shared} {K : Frag} {n : Int} {t : Tok} {b C f g2 : Addr} {ox : Obj} {od : Option Obj} {Q : Value → Shared → Prop} (X : K.In s.heap) (J : InstAt s.heap b ox C od) (hd : ox.data = .plain)
    (hc : selfFirst K C = true) (hm : findIn K (.ref C) (PySem.dunder "mul") = some (some (.ref g2))) (hs : findIn K (.ref C) (dunderR "mul") = some (some (.ref f))) (hf : isFn K (.ref f) = true) (hsub : subIn K (.ref C) (.type "int") = some false)
    (h : wpAny (model prog w) A (call (.ref f) [.ref b, .int n t]) (CmpBack Q) E s) : wpAny (model prog w) A (binaryOp .Mult (.int n t) (.ref b)) Q E s := by
  obtain ⟨cd, rest, hcd, hmro⟩ := ksp_first hc
  have one := ksp_try X J hs hf h
  have Lsub : Looks (model prog w) s.heap (isSubtype (.ref C) (.type "int")) false := looks_subIn X hsub
  have nope : wpAny (model prog w) A (tryMethod (.int n t) (PySem.dunder "mul") (.ref b)) (fun r s' => r = none ∧ s' = s) E s := by
    unfold tryMethod
    refine wpAny_bind (wpAny_callSpecial?_slot (typeIs_int s n t) F.slot_int_mul (fw_intmul J hd Lsub ?_))
    exact wpAny_pure ⟨rfl, rfl⟩
  obtain ⟨hh, g, d, tt, os⟩ := s
  have L1 : Looks (model prog w) hh (typeOf (.int n t)) (.type "int") := Looks.of_pure rfl
  have L2 : Looks (model prog w) hh (typeOf (.ref b)) (.ref C) := J.type
  have L3 : Looks (model prog w) hh (fillsNumberSlot (.type "int") "mul") true := Looks.of_pure F.fills_int_mul
  have L4 : Looks (model prog w) hh (fillsNumberSlot (.ref C) "mul") true := fills_K X hcd hmro hm
  have L5 : Looks (model prog w) hh (numberSlotInPython (.type "int") "mul") false := Looks.of_pure rfl
  simp only [binaryOp, Operator.info]
  refine wpAny_holding (wpAny_bind ?_)
  unfold binaryOp1
  have hne : (Value.type "int" == Value.ref C) = false := Bool.eq_false_iff.mpr fun q => by cases beq_iff_eq.mp q
  refine wpAny_bind (L1.at (wpAny_bind (L2.at (wpAny_bind (L3.at ?_)))))
  simp only [hne, Bool.false_eq_true, if_false]
  ksp_lk
  refine wpAny_mono nope (fun r s' hr => ?_) fun _ _ e => e
  obtain ⟨rfl, rfl⟩ := hr
  ksp_lk
  refine wpAny_mono one (fun r s' hr => ?_) fun _ _ e => e
  obtain ⟨v, rfl, hq⟩ := hr
  ksp_lk
  exact hq
end PySem.W

set_option Elab.async false
set_option linter.all false
set_option maxRecDepth 100000
set_option maxHeartbeats 4000000
namespace FV
open PySem PySem.Spec PyProof.Rows L2

/-! ### the contexts of a def's body -/
section
variable {P : Program} {w : World} {T : Tb} {mg : Str → Option Value} {base : Heap} {N : List Str} {qual : Str} {sc : Scope} {f : Addr} {cdv : Value} {A : Around} {outer : List Env} {s : Shared} {H : Hp} {E : XK}
theorem fits_body : Fits (cxOf (L2.CX P w) P w T.K mg base N qual sc f cdv A outer s H E) T (WF E) := ⟨rfl, takes_of rfl rfl rfl rfl⟩
theorem own_body : PassesOwn (model P w) (cxOf (L2.CX P w) P w T.K mg base N qual sc f cdv A outer s H E).A (cxOf (L2.CX P w) P w T.K mg base N qual sc f cdv A outer s H E).env (cxOf (L2.CX P w) P w T.K mg base N qual sc f cdv A outer s H E).xe := passes_of (E₁ := fun e' s'' => L2.CX P w outer H s E e' s'') rfl
theorem fits_blk {X : Cx} {scope : Scope} {cenv : Env} {fp : List Addr} (h : X.K = T.K) : Fits (X.blk s H scope cenv fp) T WN := ⟨h, takes0⟩
end

/-! ### what a body leans on, in bundles -/
section
variable (P : Program) (w : World) (T : Tb) (mg : Str → Option Value) (base : Heap)
/-- a def of the module -/
def FnG (k : Nat) (x : Str) (G : FnD) : Prop := ∃ f, mg x = some (.ref f) ∧ PySem.W.keepIn T.K (.ref f) = true ∧ FnX P w T mg base k f G
/-- a method -/
def MtG (k c : Nat) (m : Str) (G : FnD) : Prop := ∃ C f, T.CT[c]? = some C ∧ Meth T.K C m f ∧ FnX P w T mg base k f G
/-- a class made -/
def ClG (k c : Nat) (x : Str) (G : FnD) : Prop := ∃ C f, T.CT[c]? = some C ∧ mg x = some (.ref C) ∧ Mk T.K C f ∧ Cls T.K C ∧ FnX P w T mg base k f G
/-- a property -/
def PrG (k c : Nat) (m : Str) (G : FnD) : Prop := ∃ C p g fd ps, T.CT[c]? = some C ∧ PropOf T.K C m p g ∧ Binds T.K fd ps [] ∧ FnOk P w T.K mg base (L2.CX P w) k g fd ps (spR T G)
/-- a static method -/
def SmG (k : Nat) (x m : Str) (G : FnD) : Prop := ∃ C f, mg x = some (.ref C) ∧ SMet T.K C m f ∧ FnX P w T mg base k f G
/-- __iter__ -/
def ItG (k c i : Nat) : Prop := ∃ C f fld, T.CT[c]? = some C ∧ T.FT[i]? = some fld ∧ Meth T.K C "__iter__" f ∧ IterFn P w T.K mg base k f C fld
end
/-- .. that stand in the written part alone -/
def NaG (T : Tb) (c i : Nat) (name : Str) : Prop := ∃ C, T.CT[c]? = some C ∧ T.FT[i]? = some name ∧ NoAttr T.K C name
def IsG (T : Tb) (mg : Str → Option Value) (c : Nat) (x : Str) (b : Bool) : Prop := ∃ C C2, T.CT[c]? = some C ∧ ClsI T.K C ∧ PySem.W.kitOne T.K (.ref C) (.ref C2) = some b ∧ mg x = some (.ref C2)
def SfG (T : Tb) (c : Nat) : Prop := ∃ C, T.CT[c]? = some C ∧ PySem.W.selfFirst T.K C = true
def NfG (T : Tb) (c : Nat) : Prop := ∃ C, T.CT[c]? = some C ∧ PySem.W.notFirst T.K C (.ref C) = true
/-- an op with an int at the right -/
def OiG (T : Tb) (c : Nat) (nm : String) : Prop := ∃ C fo ro rc, T.CT[c]? = some C ∧ PySem.W.selfFirst T.K C = true ∧ PySem.W.findIn T.K (.ref C) (dunderR nm) = some rc ∧ (rc = none ∨ ∃ g : Addr, rc = some (.ref g)) ∧ PySem.W.findIn T.K (.type "int") (PySem.dunder nm) = some fo ∧ PySem.W.findIn T.K (.type "int") (dunderR nm) = some ro ∧ PySem.W.subIn T.K (.type "int") (.ref C) = some false
section
variable {X : Cx} {T : Tb} {W : WX} {pos pos' p apos : Pos} {e o : Expr} {es : List Expr} {d : Den} {t : DenA} {k : Nat} {G : FnD}
theorem fk {f : Addr} (hK : X.K = T.K) (F : FnX X.prog X.w T X.mg X.base k f G) : FnR X.prog X.w X.K X.mg X.base (L2.CX X.prog X.w) k f (spR T G) := by
  rw [hK]; exact F
theorem pxg_call {x : Str} (hF : Fits X T W) (F : FnG X.prog X.w T X.mg X.base k x G) (hr : Room k X.A) (ha : CallsBy X pos es (tA T W t)) (hg : Gl X x := by rfl) (hdb : (x == ("__debug__" : Str)) = false := by decide) : PX X T W (.Call (.Name x p) es [] pos) (dCall G t) := by
  obtain ⟨f, hm, hk, F⟩ := F
  rw [← hF.K] at hk
  replace F := fk hF.K F
  exact px_call hF F hr hm hk ha hg hdb
theorem pxg_make (c : Nat) {x : Str} (hF : Fits X T W) (F : ClG X.prog X.w T X.mg X.base k c x G) (hr : Room (k + 1) X.A) (ha : CallsBy X pos es (tA T W t)) (hg : Gl X x := by rfl) (hdb : (x == ("__debug__" : Str)) = false := by decide) : PX X T W (.Call (.Name x p) es [] pos) (dMake c G t) := by
  obtain ⟨C, f, hC, hm, MK, cl, F⟩ := F
  rw [← hF.K] at MK
  replace F := fk hF.K F
  exact px_make c hF MK hC cl F hr hm ha hg hdb
theorem pxg_makeV (c : Nat) {x : Str} (hF : Fits X T W) (F : ClG X.prog X.w T X.mg X.base k c x G) (hr : Room (k + 1) X.A) (ha : CallsBy X pos es (tA T W t)) (hg : Gl X x := by rfl) (hdb : (x == ("__debug__" : Str)) = false := by decide) : PX X T W (.Call (.Name x p) es [] pos) (dMakeV c G t) := by
  obtain ⟨C, f, hC, hm, MK, cl, F⟩ := F
  rw [← hF.K] at MK
  replace F := fk hF.K F
  exact px_makeV c hF MK hC cl F hr hm ha hg hdb
theorem pxg_meth (c : Nat) {m : Str} {pl : Sem Bool} {od : Den} (hF : Fits X T W) (F : MtG X.prog X.w T X.mg X.base k c m G) (hnf : m ∉ T.FT) (hr : Room k X.A) (ho : PX X T W o od) (ha : CallsBy X pos es (tA T W t))
    (ht : eval (.Call (.Attribute o m apos) es [] pos) X.env = (do
      let ov ← eval o X.env
      standAt apos.atName
      let (f, first) ← holding [ov] (getMethod ov m pl)
      callWith pos f first (backTo pos (starEach es X.env)) (backToKw pos (keywordEach [] X.env))) := by rfl) :
    PX X T W (.Call (.Attribute o m apos) es [] pos) (dMeth c G od t) := by
  obtain ⟨C, f, hC, hm, F⟩ := F
  rw [← hF.K] at hm
  replace F := fk hF.K F
  exact px_meth c hF hC hnf hm F hr ho ha ht
theorem pxg_prop (c : Nat) {m : Str} {od : Den} (hF : Fits X T W) (F : PrG X.prog X.w T X.mg X.base k c m G) (hr : Room (k + 1) X.A) (ho : PX X T W e od)
    (hab : attributeBase e m X.env (eval e X.env) = eval e X.env := by rfl) : PX X T W (.Attribute e m pos) (dProp c G od) := by
  obtain ⟨C, pp, g, fd, ps, hC, hp, hb, F⟩ := F
  rw [← hF.K] at hp hb F
  exact px_prop c hF hC hp F hb hr ho hab
theorem pxg_static {x m : Str} {pl : Sem Bool} (hF : Fits X T W) (F : SmG X.prog X.w T X.mg X.base k x m G) (hr : Room k X.A) (ha : CallsBy X pos es (tA T W t)) (hg : Gl X x := by rfl)
    (hdb : (x == ("__debug__" : Str)) = false := by decide)
    (ht : eval (.Call (.Attribute (.Name x p) m apos) es [] pos) X.env = (do
      let ov ← eval (.Name x p) X.env
      standAt apos.atName
      let (f, first) ← holding [ov] (getMethod ov m pl)
      callWith pos f first (backTo pos (starEach es X.env)) (backToKw pos (keywordEach [] X.env))) := by rfl) :
    PX X T W (.Call (.Attribute (.Name x p) m apos) es [] pos) (dCall G t) := by
  obtain ⟨C, f, hm, hS, F⟩ := F
  rw [← hF.K] at hS
  replace F := fk hF.K F
  exact px_static hF hS F hr hm ha hg hdb ht
theorem pixg_own {c i : Nat} {tg : Expr} (hF : Fits X T W) (F : ItG X.prog X.w T X.mg X.base k c i) (hr : Room k X.A) (h : PX X T W e d) : PIX X T W tg e (dIOwn c i d) := by
  obtain ⟨C, f, fld, hC, hn, hm, F⟩ := F
  rw [← hF.K] at hm F
  exact pix_own hF hC hn hm F hr h
theorem psxg_fld (c i : Nat) {name : Str} {od : Den} (hF : Fits X T W) (h : NaG T c i name) (ho : PX X T W o od) (hv : PX X T W e d)
    (hs : swapsWith e (some (.Attribute o name pos')) pos.line X.env = pure false := by rfl) : PSX X T W (.Assign [.Attribute o name pos'] e pos) (dSetF c i od d) := by
  obtain ⟨C, hC, hn, na⟩ := h
  exact psx_fld c i hF hn hC na ho hv hs
/-- self.f = [comprehension]: swapsWith is false there, too -/
theorem pxg_isC {e : Expr} {d : Den} {x : Str} {c : Nat} {b : Bool} {p p2 : Pos} (hF : Fits X T W) (h : IsG T X.mg c x b) (hm : X.mg "isinstance" = none) (he : PX X T W e d)
    (hg2 : Gl X x := by rfl) (hd2 : (x == ("__debug__" : Str)) = false := by decide)
    (hg : Gl X "isinstance" := by rfl) (hs : starEach [e, .Name x p2] X.env = (false, eval e X.env) :: starEach [.Name x p2] X.env := by rfl) (hs2 : starEach [.Name x p2] X.env = (false, eval (.Name x p2) X.env) :: starEach [] X.env := by rfl)
    (hpl : (backTo pos (starEach [.Name x p2] X.env)).any (·.1) = false := by rfl) : PX X T W (.Call (.Name "isinstance" p) [e, .Name x p2] [] pos) (dIsC c b d) := by
  obtain ⟨C, C2, hC, hI, hk, hm2⟩ := h
  rw [← hF.K] at hI hk
  exact px_isC hF hC hI hk hm hm2 he hg2 hd2 hg hs hs2 hpl
theorem oxg_own2 {c : Nat} {op : Operator} {m : Str} (hK : X.K = T.K) (F : MtG X.prog X.w T X.mg X.base k c m G) (hc : SfG T c) (hr : Room k X.A) (hd : PySem.dunder op.info.2 = m := by decide +kernel) : OpX X T (binaryOp op) (own2 c G) := by
  obtain ⟨C, f, hC, hm, F⟩ := F
  obtain ⟨C', hC', hc⟩ := hc
  rw [hC] at hC'; cases hC'
  rw [← hK] at hm hc
  replace F := fk hK F
  exact ox_own2 hK hC hm hd hc F hr
theorem oxg_le {c : Nat} (hK : X.K = T.K) (F : MtG X.prog X.w T X.mg X.base k c "__le__" G) (hn : NfG T c) (hr : Room k X.A) : OpX X T (compareOp .LtE) (own2 c G) := by
  obtain ⟨C, f, hC, hm, F⟩ := F
  obtain ⟨C', hC', hn⟩ := hn
  rw [hC] at hC'; cases hC'
  rw [← hK] at hm hn
  replace F := fk hK F
  exact ox_ownC (m := "__le__") hK hC hm (by decide +kernel) hn (fun h => h) F hr
theorem oxg_eq {c : Nat} (hK : X.K = T.K) (F : MtG X.prog X.w T X.mg X.base k c "__eq__" G) (hn : NfG T c) (hr : Room k X.A) : OpX X T (compareOp .Eq) (own2 c G) := by
  obtain ⟨C, f, hC, hm, F⟩ := F
  obtain ⟨C', hC', hn⟩ := hn
  rw [hC] at hC'; cases hC'
  rw [← hK] at hm hn
  replace F := fk hK F
  exact ox_ownC (m := "__eq__") hK hC hm (by decide +kernel) hn (fun h => h) F hr
theorem oxg_ownI {c : Nat} {op : Operator} {m : Str} {nm : String} (hK : X.K = T.K) (F : MtG X.prog X.w T X.mg X.base k c m G) (hc : OiG T c nm) (hr : Room k X.A) (hd : PySem.dunder op.info.2 = m := by decide +kernel) (hnm : op.info.2 = nm := by rfl) : OpX X T (binaryOp op) (ownI c G) := by
  subst hnm
  obtain ⟨C, f, hC, hm, F⟩ := F
  obtain ⟨C', fo, ro, rc, hC', h1, h2, h3, h4, h5, h6⟩ := hc
  rw [hC] at hC'; cases hC'
  rw [← hK] at hm h1 h2 h4 h5 h6
  replace F := fk hK F
  exact ox_ownI hK hC hm hd h1 h2 h3 h4 h5 h6 F hr
/-- n * o: o's __rmul__ -/
def ownRI (c : Nat) (G : FnD) : OpD := fun x y st => match x with
  | .int _ => if isIns c y st = true then ofR (G [y, x] st) else none
  | _ => none
/-- what int * instance asks of the class -/
def RiG (T : Tb) (c : Nat) : Prop := ∃ C g2, T.CT[c]? = some C ∧ PySem.W.selfFirst T.K C = true ∧ PySem.W.findIn T.K (.ref C) (PySem.dunder "mul") = some (some (.ref g2)) ∧ PySem.W.subIn T.K (.ref C) (.type "int") = some false
theorem oxg_ownRI {c : Nat} (hK : X.K = T.K) (F : MtG X.prog X.w T X.mg X.base k c "__rmul__" G) (hc : RiG T c) (hr : Room k X.A) : OpX X T (binaryOp .Mult) (ownRI c G) := fun pins s σ H x y v u Q I rx ry ⟨M, d, e, st, so, r1, r2, h⟩ => by
  obtain ⟨C, f, hC, hm, F⟩ := F
  obtain ⟨C', g2, hC', h1, h2, h3⟩ := hc
  rw [hC] at hC'; cases hC'
  rw [← hK] at hm h1 h2 h3
  replace F := fk hK F
  unfold ownRI at h
  cases d with
  | int j =>
    dsimp only at h
    by_cases hi : isIns c e st = true
    · rw [if_pos hi] at h
      obtain ⟨fs1, q1⟩ := isIns_of hi
      obtain ⟨a, C1, dx1, vs1, rfl, g2', g3, g4, g5⟩ := ins_of so r2 q1
      rw [hC] at g2'; cases g2'
      obtain rfl : u = Value.ref a := ry
      have r1' := r1
      simp only [RV] at r1'
      subst r1'
      obtain ⟨t, rfl⟩ := id rx
      obtain ⟨od1, J1⟩ := inst_of I g4
      refine PySem.W.fw_refl I.kIn J1 rfl h1 h2 (show PySem.W.findIn X.K (.ref C) (dunderR "mul") = some (some (.ref f)) from hm.at_) hm.fn h3 ?_
      refine thn (run_own (us := [.ref a, .int j t]) (vs := [.ref a, .int j]) (ds := [e, .int j]) F hr rfl I (.cons rfl (.cons ⟨t, rfl⟩ .nil)) so (by simp only [RVs]; exact ⟨_, _, rfl, r2, _, _, rfl, r1, rfl⟩) h) fun r s' hh => ?_
      obtain ⟨z, H', I', rz, q⟩ := hh
      exact SlX.cmpback rz ⟨z, H', I', rz, q⟩
    · rw [if_neg hi] at h; exact h.elim
  | _ => exact h.elim
theorem oxg_ownIn {c : Nat} (hK : X.K = T.K) (F : MtG X.prog X.w T X.mg X.base k c "__contains__" G) (hr : Room k X.A) : OpX X T (compareOp .In) (ownIn c G) := by
  obtain ⟨C, f, hC, hm, F⟩ := F
  rw [← hK] at hm
  replace F := fk hK F
  exact ox_ownIn hK hC hm F hr
theorem cxg_ownLen {c : Nat} (hK : X.K = T.K) (F : MtG X.prog X.w T X.mg X.base k c "__len__" G) (hr : Room (k + 1) X.A) : CallX X T (.builtin "len") (ownLen c G) := by
  obtain ⟨C, f, hC, hm, F⟩ := F
  rw [← hK] at hm
  replace F := fk hK F
  exact cx_ownLen hK hC hm F hr
theorem cxg_ownStr {c : Nat} (hK : X.K = T.K) (F : MtG X.prog X.w T X.mg X.base k c "__str__" G) (hr : Room (k + 2) X.A) : CallX X T (.type "str") (ownStr c G) := by
  obtain ⟨C, f, hC, hm, F⟩ := F
  rw [← hK] at hm
  replace F := fk hK F
  exact cx_ownStr hK hC hm F hr
/-- x += e of ints -/
def iaddO : OpD := fun x y st => match x, y with
  | .int i, .int j => some (.int (i + j), st)
  | _, _ => none
def isubO : OpD := fun x y st => match x, y with
  | .int i, .int j => some (.int (i - j), st)
  | _, _ => none
theorem pip_imp {op : Operator} {r r' : TIp} (h : PIp X op r) (f : ∀ x y H Q, r' x y H Q → r x y H Q) : PIp X op r' := fun pins s σ H x y v u Q I rx ry q => h pins s σ H x y v u Q I rx ry (f x y H Q q)
theorem ipx_add : PIp X .Add (rD T iaddO) := pip_imp ip_add fun x y H Q ⟨M, d, e, st, s, r1, r2, h⟩ => by
  cases d with
  | int i =>
    cases e with
    | int j =>
      simp only [RV] at r1 r2; subst r1 r2
      exact ⟨i, j, rfl, rfl, PostO.fin s (by simp [RV]) h⟩
    | _ => exact h.elim
  | _ => exact h.elim
theorem ipx_sub : PIp X .Sub (rD T isubO) := pip_imp ip_sub fun x y H Q ⟨M, d, e, st, s, r1, r2, h⟩ => by
  cases d with
  | int i =>
    cases e with
    | int j =>
      simp only [RV] at r1 r2; subst r1 r2
      exact ⟨i, j, rfl, rfl, PostO.fin s (by simp [RV]) h⟩
    | _ => exact h.elim
  | _ => exact h.elim
end
/-! ### from a body's derivation to the bundles -/
section
variable {P : Program} {w : World} {T : Tb} {mg : Str → Option Value} {base : Heap} {k : Nat} {f : Addr} {fd : FuncData} {x qual : Str} {st : Stmt} {N ps : List Str} {b : DenS} {C : Addr} {c : Nat}
/-- how the names of a def stand to its text: parameters bound by place -/
abbrev BindP (ps : List Str) (x qual : Str) (st : Stmt) : Prop := ∀ (kV doc pm : Value) (an : Option Addr) (cdv ct : Value) (us : List Value), us.length = ps.length → bindArgs (PySem.W.fnOf x qual (defArgs st) (defBody st) (defScope st) .none kV doc pm an cdv ct) ⟨us, []⟩ = pure (ps.zip us)
abbrev BindS (ps : List Str) (pv x qual : Str) (st : Stmt) : Prop := ∀ (kV doc pm : Value) (an : Option Addr) (cdv ct : Value) (us rest : List Value), us.length = ps.length →
      bindArgs (PySem.W.fnOf x qual (defArgs st) (defBody st) (defScope st) .none kV doc pm an cdv ct) ⟨us ++ rest, []⟩ = (newTuple rest >>= fun t => pure (ps.zip us ++ [(pv, t)]))
theorem fng_of (F : Fun T.K x qual st f fd) (hm : mg x = some (.ref f)) (S : FnScope N ps (defScope st)) (hb : BindP ps x qual st) {G : FnD} (hG : IsBody ps.length N.length b G) (h : BodyX P w T mg base k N qual st f b) : FnG P w T mg base (k + 1) x G :=
  ⟨f, hm, F.kp, fnx_body F S (F.binds hb) hG h⟩
/-- a method's facts -/
theorem mtg_of (F : Fun T.K x qual st f fd) (hC : T.CT[c]? = some C) (a : PySem.W.findIn T.K (.ref C) x = some (some (.ref f))) (i : PySem.W.isFn T.K (.ref f) = true) (S : FnScope N ps (defScope st)) (hb : BindP ps x qual st) {G : FnD} (hG : IsBody ps.length N.length b G) (h : BodyX P w T mg base k N qual st f b) : MtG P w T mg base (k + 1) c x G :=
  ⟨C, f, hC, ⟨a, i, F.kp⟩, fnx_body F S (F.binds hb) hG h⟩
theorem clg_of {X : Str} (F : Fun T.K "__init__" qual st f fd) (hC : T.CT[c]? = some C) (hm : mg X = some (.ref C)) (cl : Cls T.K C) (mk : PySem.W.makesIn T.K C = true) (kc : PySem.W.keepIn T.K (.ref C) = true) (a : PySem.W.findIn T.K (.ref C) "__init__" = some (some (.ref f))) (i : PySem.W.isFn T.K (.ref f) = true)
    (S : FnScope N ps (defScope st)) (hb : BindP ps "__init__" qual st) {G : FnD} (hG : IsBody ps.length N.length b G) (h : BodyX P w T mg base k N qual st f b) : ClG P w T mg base (k + 1) c X G :=
  ⟨C, f, hC, hm, ⟨mk, a, i, kc⟩, cl, fnx_body F S (F.binds hb) hG h⟩
theorem clg_ofS {X pv : Str} (F : Fun T.K "__init__" qual st f fd) (hC : T.CT[c]? = some C) (hm : mg X = some (.ref C)) (cl : Cls T.K C) (mk : PySem.W.makesIn T.K C = true) (kc : PySem.W.keepIn T.K (.ref C) = true) (a : PySem.W.findIn T.K (.ref C) "__init__" = some (some (.ref f))) (i : PySem.W.isFn T.K (.ref f) = true)
    (S : FnScope N (ps ++ [pv]) (defScope st)) (hb : BindS ps pv "__init__" qual st) {G : FnD} (hG : IsBody (ps.length + 1) N.length b G) (h : BodyX P w T mg base k N qual st f b) : ClG P w T mg base (k + 1) c X (starF ps.length G) :=
  ⟨C, f, hC, hm, ⟨mk, a, i, kc⟩, cl, fnx_star F S hb hG h⟩
theorem prg_of {p : Addr} {rest : List Value} (F : Fun T.K x qual st f fd) (hC : T.CT[c]? = some C) (a : PySem.W.findIn T.K (.ref C) x = some (some (.ref p))) (g : PySem.W.specialIn T.K (.ref p) "__get__" = some (some (.builtin "property.__get__"))) (t : PySem.W.takesIn T.K (.ref p) = some true) (r : PySem.W.recIn T.K p "property" = some (.ref f :: rest))
    (S : FnScope N ps (defScope st)) (hb : BindP ps x qual st) {G : FnD} (hG : IsBody ps.length N.length b G) (h : BodyX P w T mg base k N qual st f b) : PrG P w T mg base (k + 1) c x G :=
  ⟨C, p, f, fd, ps, hC, ⟨a, g, t, rest, r⟩, F.binds hb, fnok_body F S hG h⟩
theorem smg_ofS {p : Addr} {rest : List Value} {X pv : Str} (F : Fun T.K x qual st f fd) (hm : mg X = some (.ref C)) (rd : PySem.W.readsIn T.K C (.type "type") = true) (ga : PySem.W.specialIn T.K (.ref C) "__getattribute__" = some (some (.builtin "type.__getattribute__")))
    (a : PySem.W.findCls T.K (.ref C) (.type "type") x = some (.get (.builtin "staticmethod.__get__") (.ref p) .none (.ref C))) (r : PySem.W.recIn T.K p "staticmethod" = some (.ref f :: rest)) (S : FnScope N (ps ++ [pv]) (defScope st)) (hb : BindS ps pv x qual st) {G : FnD} (hG : IsBody (ps.length + 1) N.length b G) (h : BodyX P w T mg base k N qual st f b) : SmG P w T mg base (k + 1) X x (starF ps.length G) :=
  ⟨C, f, hm, ⟨rd, ga, ⟨p, a, rest, r⟩, F.kp⟩, fnx_star F S hb hG h⟩
theorem smg_of {p : Addr} {rest : List Value} {X : Str} (F : Fun T.K x qual st f fd) (hm : mg X = some (.ref C)) (rd : PySem.W.readsIn T.K C (.type "type") = true) (ga : PySem.W.specialIn T.K (.ref C) "__getattribute__" = some (some (.builtin "type.__getattribute__")))
    (a : PySem.W.findCls T.K (.ref C) (.type "type") x = some (.get (.builtin "staticmethod.__get__") (.ref p) .none (.ref C))) (r : PySem.W.recIn T.K p "staticmethod" = some (.ref f :: rest)) (S : FnScope N ps (defScope st)) (hb : BindP ps x qual st) {G : FnD} (hG : IsBody ps.length N.length b G) (h : BodyX P w T mg base k N qual st f b) : SmG P w T mg base (k + 1) X x G :=
  ⟨C, f, hm, ⟨rd, ga, ⟨p, a, rest, r⟩, F.kp⟩, fnx_body F S (F.binds hb) hG h⟩
theorem fng_ofS {pv : Str} (F : Fun T.K x qual st f fd) (hm : mg x = some (.ref f)) (S : FnScope N (ps ++ [pv]) (defScope st)) (hb : BindS ps pv x qual st) {G : FnD} (hG : IsBody (ps.length + 1) N.length b G) (h : BodyX P w T mg base k N qual st f b) : FnG P w T mg base (k + 1) x (starF ps.length G) :=
  ⟨f, hm, F.kp, fnx_star F S hb hG h⟩
theorem mtg_ofS {pv : Str} (F : Fun T.K x qual st f fd) (hC : T.CT[c]? = some C) (a : PySem.W.findIn T.K (.ref C) x = some (some (.ref f))) (i : PySem.W.isFn T.K (.ref f) = true) (S : FnScope N (ps ++ [pv]) (defScope st)) (hb : BindS ps pv x qual st) {G : FnD} (hG : IsBody (ps.length + 1) N.length b G) (h : BodyX P w T mg base k N qual st f b) : MtG P w T mg base (k + 1) c x (starF ps.length G) :=
  ⟨C, f, hC, ⟨a, i, F.kp⟩, fnx_star F S hb hG h⟩
theorem itg_of {i : Nat} {fld : Str} {p1 p2 p3 p4 p5 : Pos} (F : Fun T.K "__iter__" qual st f fd) (hC : T.CT[c]? = some C) (hn : T.FT[i]? = some fld) (a : PySem.W.findIn T.K (.ref C) "__iter__" = some (some (.ref f))) (ii : PySem.W.isFn T.K (.ref f) = true) (S : FnScope ["self"] ["self"] (defScope st)) (hb : BindP ["self"] "__iter__" qual st) (hm : mg "iter" = none) (hg : (defScope st).names.lookup ("iter" : Str) = some .globalImplicit)
    (hbd : defBody st = [.Return (some (.Call (.Name "iter" p1) [.Attribute (.Name "self" p2) fld p3] [] p4)) p5]) : ItG P w T mg base (k + 1) c i :=
  ⟨C, f, fld, hC, hn, ⟨a, ii, F.kp⟩, iterFn_of F S (F.binds hb) hm hg hbd⟩
end
end FV

set_option Elab.async false
set_option linter.all false
set_option maxRecDepth 100000
set_option maxHeartbeats 4000000
namespace FV
open PySem PySem.Spec PyProof.Rows L2
/-! ### the law's own call -/
theorem script_rv {K : PySem.W.Frag} {H : Hp} {a : Addr} {ns : List Int} (hO : Only H) (hS : SqL K H a (ns.map V.int)) : (∃ o, H a = some (.frz o (.lst (ns.map V.int)))) ∨ SqK K a (ns.map V.int) := by
  rcases hS with (h | h) | h
  · rcases hO a with e | ⟨o, xs, e⟩
    · rw [e] at h; cases h
    · rw [e] at h; cases h
  · exact .inl h
  · exact .inr h
theorem bindS0 {st : Stmt} {x qual pv : Str} {q : Pos} (e : defArgs st = ⟨[], [], some ⟨pv, none, q⟩, [], [], none, []⟩) : BindS [] pv x qual st := by
  intro kV doc pm an cdv ct us rest hl
  match us, hl with
  | [], _ =>
    rw [e]
    generalize defBody _ = bb
    generalize defScope _ = ss
    simp [bindArgs, PySem.W.fnOf, seqItems?]
    rfl
theorem bindS1 {st : Stmt} {x qual n pv : Str} {p q : Pos} (e : defArgs st = ⟨[], [⟨n, none, p⟩], some ⟨pv, none, q⟩, [], [], none, []⟩) : BindS [n] pv x qual st := by
  intro kV doc pm an cdv ct us rest hl
  match us, hl with
  | [a], _ =>
    rw [e]
    generalize defBody _ = bb
    generalize defScope _ = ss
    simp [bindArgs, PySem.W.fnOf, seqItems?]
    rfl
end FV

set_option Elab.async false
set_option linter.all false
set_option maxRecDepth 100000
set_option maxHeartbeats 4000000
namespace FV
open PySem PySem.Spec PyProof.Rows L2

/-! ### keys that are tuples, told of the abstract heap -/
mutual
inductive KIs (H : Hp) : NestedKey → V → Prop
  | none : KIs H .none .non
  | bl (b : Bool) : KIs H (.num (if b then 1 else 0)) (.bl b)
  | num (i : Int) : KIs H (.num i) (.int i)
  | text (s : Str) : KIs H (.text s) (.str s)
  | tup {a : Addr} {vs : List V} {ks : List NestedKey} : H a = some (.tup vs) → KAll H ks vs → KIs H (.tup ks) (.ref a)
inductive KAll (H : Hp) : List NestedKey → List V → Prop
  | nil : KAll H [] []
  | cons {k : NestedKey} {v : V} {ks : List NestedKey} {vs : List V} : KIs H k v → KAll H ks vs → KAll H (k :: ks) (v :: vs)
end
section
variable {T : Tb} {M : Mu} {H : Hp}
mutual
theorem keyN_is : ∀ {d : D} {v : V} {q : NestedKey}, keyN d = some q → RV T M H d v → KIs H q v
  | .non, v, q, e, r => by simp only [keyN, Option.some.injEq] at e; simp only [RV] at r; subst e r; exact .none
  | .bl b, v, q, e, r => by simp only [keyN, Option.some.injEq] at e; simp only [RV] at r; subst e r; exact .bl b
  | .int i, v, q, e, r => by simp only [keyN, Option.some.injEq] at e; simp only [RV] at r; subst e r; exact .num i
  | .str s, v, q, e, r => by simp only [keyN, Option.some.injEq] at e; simp only [RV] at r; subst e r; exact .text s
  | .tup xs, v, q, e, r => by
    simp only [keyN, Option.map_eq_some_iff] at e
    obtain ⟨ks, e, rfl⟩ := e
    simp only [RV] at r
    obtain ⟨a, vs, rfl, _, h, r⟩ := r
    exact .tup h (keyNs_is e r)
  | .lst _, v, q, e, r => by simp [keyN] at e
  | .dct _ _, v, q, e, r => by simp [keyN] at e
  | .ins _ _, v, q, e, r => by simp [keyN] at e
  | .ref _, v, q, e, r => by simp [keyN] at e
  | .scr _, v, q, e, r => by simp [keyN] at e
  | .exv _ _, v, q, e, r => by simp [keyN] at e
theorem keyNs_is : ∀ {d : List D} {v : List V} {q : List NestedKey}, keyNs d = some q → RVs T M H d v → KAll H q v
  | [], v, q, e, r => by simp only [keyNs, Option.some.injEq] at e; simp only [RVs] at r; subst e r; exact .nil
  | x :: xs, v, q, e, r => by
    simp only [keyNs] at e
    obtain ⟨a, e1, e⟩ := Option.bind_eq_some_iff.mp e
    obtain ⟨b, e2, rfl⟩ := Option.map_eq_some_iff.mp e
    simp only [RVs] at r
    obtain ⟨w, ws, rfl, r1, r2⟩ := r
    exact .cons (keyN_is e1 r1) (keyNs_is e2 r2)
end
end
section
variable {P : Program} {w : World} {H : Hp} {h : Heap}
mutual
theorem kis_nested (ok : HOk P w H h) : ∀ {q : NestedKey} {v : V} {u : Value}, KIs H q v → RelV v u → NestedIs h q u
  | .none, v, u, k, r => by cases k; cases r; exact .none
  | .num i, v, u, k, r => by
    cases k with
    | bl b => cases r; exact .bool rfl
    | num => obtain ⟨t, rfl⟩ := r; exact .int i t
  | .text s, v, u, k, r => by cases k; obtain ⟨t, rfl⟩ := r; exact .text s t
  | .tup ks, v, u, k, r => by
    cases k with
    | tup h1 h2 =>
      cases r
      obtain ⟨_, its, rv, o, e1, e2, n, e3⟩ := (show ObjOk P w H h _ (.tup _) from ok _ _ h1)
      exact .tup e1 e2 e3 (by simpa using kall_nested ok h2 rv)
theorem kall_nested (ok : HOk P w H h) : ∀ {q : List NestedKey} {v : List V} {u : List Value}, KAll H q v → Vals v u → NestedAll h q u
  | [], v, u, k, r => by cases k; cases r; exact .nil
  | q :: qs, v, u, k, r => by
    cases k with
    | cons k1 k2 =>
      cases r with
      | cons r1 r2 => exact .cons (kis_nested ok k1 r1) (kall_nested ok k2 r2)
end
/-- a key of the nested kind -/
def NK (H : Hp) (q : NestedKey) (b : Addr) : Prop := KIs H q (.ref b) ∧ q.depth ≤ 8
theorem NK.is {q : NestedKey} {b : Addr} (ok : HOk P w H h) (k : NK H q b) : (nestedKind P w).is h q b := ⟨kis_nested ok k.1 rfl, k.2⟩
def valN (ks : List (NestedKey × Addr × V)) (q : NestedKey) : Option V := (ks.find? fun p => decide (p.1 = q)).map (·.2.2)
def putN' (ks : List (NestedKey × Addr × V)) (q : NestedKey) (b : Addr) (v : V) : List (NestedKey × Addr × V) :=
  if (valN ks q).isSome then ks.map fun p => if p.1 = q then (p.1, p.2.1, v) else p else ks ++ [(q, b, v)]
abbrev KR (ks : List (NestedKey × Addr × V)) (xs : List (NestedKey × Addr × Value)) : Prop := Paired (fun (p : NestedKey × Addr × V) (q : NestedKey × Addr × Value) => p.1 = q.1 ∧ p.2.1 = q.2.1 ∧ RelV p.2.2 q.2.2) ks xs
theorem KR.val {ks : List (NestedKey × Addr × V)} {xs : List (NestedKey × Addr × Value)} (r : KR ks xs) (q : NestedKey) : RelO (valN ks q) ((atKey xs q).map (·.2)) := by
  induction r with
  | nil => trivial
  | @cons p x ks xs hh t ih =>
    obtain ⟨h1, h2, h3⟩ := hh
    by_cases e : p.1 = q
    · have e' : x.1 = q := h1.symm.trans e
      simpa [valN, atKey, e, e', RelO] using h3
    · have e' : ¬ x.1 = q := fun z => e (h1.trans z)
      simpa [valN, atKey, e, e'] using ih
theorem KR.repl {q : NestedKey} {v : V} {u : Value} (r : RelV v u) {ks : List (NestedKey × Addr × V)} {xs : List (NestedKey × Addr × Value)} (k : KR ks xs) : KR (ks.map fun p => if p.1 = q then (p.1, p.2.1, v) else p) (xs.map (putAt q u)) := by
  induction k with
  | nil => exact .nil
  | @cons p x ks xs hh t ih =>
    obtain ⟨h1, h2, h3⟩ := hh
    refine .cons ?_ ih
    unfold putAt
    dsimp only
    by_cases e : p.1 = q
    · have e' : x.1 = q := h1.symm.trans e
      rw [if_pos e, if_pos e']
      exact ⟨h1, h2, r⟩
    · have e' : ¬ x.1 = q := fun z => e (h1.trans z)
      rw [if_neg e, if_neg e']
      exact ⟨h1, h2, h3⟩
theorem KR.put {q : NestedKey} {b : Addr} {v : V} {u : Value} {ks : List (NestedKey × Addr × V)} {xs : List (NestedKey × Addr × Value)} (k : KR ks xs) (r : RelV v u) : KR (putN' ks q b v) (storedH xs q b u) := by
  unfold putN' storedH
  have e := (KR.val k q).isSome_eq
  rw [Option.isSome_map] at e
  rw [e]
  by_cases h : (atKey xs q).isSome = true
  · rw [if_pos h, if_pos h]; exact k.repl r
  · rw [if_neg h, if_neg h]; exact Paired.snoc k ⟨rfl, rfl, r⟩
theorem putN'_len (ks : List (NestedKey × Addr × V)) (q : NestedKey) (b : Addr) (v : V) : (putN' ks q b v).length ≤ ks.length + 1 := by
  unfold putN'; split <;> simp
/-- a dict of the nested kind, for the library's rules -/
theorem nd_of {a : Addr} {ks : List (NestedKey × Addr × V)} (ok : HOk P w H h) (e : H a = some (.ext (NdO P w a ks))) (hk : ∀ p ∈ ks, NK H p.1 p.2.1) :
    (a == sysModules) = false ∧ ks.length ≤ sizeLine ∧ ∃ xs, KR ks xs ∧ h.DictOfH (nestedKind P w) a xs := by
  obtain ⟨⟨h1, h2, xs, rel, o, es, ep, ho, hx, hd, he, hn⟩, _, _⟩ := (show ObjOk P w H h a (.ext (NdO P w a ks)) from ok a _ e)
  refine ⟨h1, h2, xs, rel, o, es, ep, ho, hx, hd, he, fun x hx => ?_, hn⟩
  have all : ∀ {l : List (NestedKey × Addr × V)} {m : List (NestedKey × Addr × Value)}, KR l m → (∀ p ∈ l, NK H p.1 p.2.1) → ∀ x ∈ m, (nestedKind P w).is h x.1 x.2.1 := by
    intro l m q
    induction q with
    | nil => intro _ x hx; cases hx
    | @cons p q ps qs hq t ih =>
      intro hl x hx
      rcases List.mem_cons.mp hx with e | hx
      · subst e
        have := (hl p List.mem_cons_self).is ok
        rwa [hq.1, hq.2.1] at this
      · exact ih (fun p hp => hl p (List.mem_cons_of_mem _ hp)) x hx
  exact all rel hk x hx
/-- its object, behind a store -/
theorem nd_new {a : Addr} {H' : Hp} {h' : Heap} {ks : List (NestedKey × Addr × V)} {xs : List (NestedKey × Addr × Value)} (h1 : (a == sysModules) = false) (h2 : ks.length ≤ sizeLine) (rel : KR ks xs) (dd : h'.DictOfH (nestedKind P w) a xs) : ObjOk P w H' h' a (.ext (NdO P w a ks)) := by
  obtain ⟨o, es, ep, ho, hx, hd, he, his, hn⟩ := dd
  refine ⟨⟨h1, h2, xs, rel, o, es, ep, ho, hx, hd, he, hn⟩, ⟨o, ho⟩, ?_⟩
  rintro ha hb ⟨k1, k2, ys, r2, o2, es2, ep2, ho2, q⟩ hk
  exact ⟨k1, k2, ys, r2, o2, es2, ep2, hk _ ho2, q⟩
end
/-! ### both kinds of dicts -/
def NGet (P : Program) (w : World) (H : Hp) (a : Addr) (y : V) (r : Option V) : Prop := ∃ ks q b, H a = some (.ext (NdO P w a ks)) ∧ (∀ p ∈ ks, NK H p.1 p.2.1) ∧ y = .ref b ∧ NK H q b ∧ valN ks q = r
def GGet (P : Program) (w : World) (H : Hp) (a : Addr) (y : V) (r : Option V) : Prop := DGet H a y r ∨ NGet P w H a y r
def NPut (P : Program) (w : World) (H : Hp) (a : Addr) (y v : V) (H' : Hp) : Prop := ∃ ks q b, H a = some (.ext (NdO P w a ks)) ∧ (∀ p ∈ ks, NK H p.1 p.2.1) ∧ y = .ref b ∧ NK H q b ∧ ks.length < sizeLine ∧ H' = upd H a (.ext (NdO P w a (putN' ks q b v)))
def GPut (P : Program) (w : World) (H : Hp) (a : Addr) (y v : V) (H' : Hp) : Prop := DPut H a y v H' ∨ NPut P w H a y v H'
section
variable {X : Cx} {pins : List (Addr × Obj)} {σ : L2.St} {H H' : Hp} {s : Shared} {a : Addr} {y v d : V} {u r : Value} {o : Option V} {A : Around} {E : Value → Shared → Prop}
theorem g_getItem {Q : Value → Shared → Prop} (hu : A.units + 65 < cLine) (I : Inv X pins σ H s) (g : GGet X.prog X.w H a y (some v)) (ry : RelV y u) (h : ∀ w' s', Inv X pins σ H s' → RelV v w' → Q w' s') :
    wpAny (model X.prog X.w) A (getItem (.ref a) u) Q E s := by
  rcases g with g | ⟨ks, q, b, e, hk, rfl, kq, l⟩
  · exact d_getItem (by omega) I g ry h
  · cases ry
    obtain ⟨hd, z, xs, rel, dd⟩ := nd_of I.hok e hk
    obtain ⟨w', hw, rw'⟩ := RelO.some_of (v := v) (o := (atKey xs q).map (·.2)) (by rw [← l]; exact rel.val q)
    obtain ⟨p, hp, hp2⟩ := Option.map_eq_some_iff.mp hw
    refine wpAny_getItem_heap (show (nestedKind X.prog X.w).room A.in1 from by show A.in1.units + 8 < cLine; have : A.in1.units = A.units + 1 := rfl; omega) (kq.is I.hok) dd hp ?_
    rw [hp2]
    exact h w' _ (I.tok _) rw'
theorem g_in {Q : Value → Shared → Prop} (hu : A.units + 65 < cLine) (I : Inv X pins σ H s) (g : GGet X.prog X.w H a y o) (ry : RelV y u) (h : ∀ s', Inv X pins σ H s' → Q (.bool o.isSome) s') :
    wpAny (model X.prog X.w) A (compareOp .In u (.ref a)) Q E s := by
  rcases g with g | ⟨ks, q, b, e, hk, rfl, kq, l⟩
  · exact d_in (by omega) I g ry h
  · cases ry
    obtain ⟨hd, z, xs, rel, dd⟩ := nd_of I.hok e hk
    refine wpAny_in_heap (show (nestedKind X.prog X.w).room A.in1 from by show A.in1.units + 8 < cLine; have : A.in1.units = A.units + 1 := rfl; omega) (kq.is I.hok) hd dd ?_
    have q2 := (rel.val q).isSome_eq
    rw [Option.isSome_map] at q2
    rw [← q2, l]
    exact h _ (I.tok _)
theorem g_notIn {Q : Value → Shared → Prop} (hu : A.units + 65 < cLine) (I : Inv X pins σ H s) (g : GGet X.prog X.w H a y o) (ry : RelV y u) (h : ∀ s', Inv X pins σ H s' → Q (.bool (!o.isSome)) s') :
    wpAny (model X.prog X.w) A (compareOp .NotIn u (.ref a)) Q E s := by
  rcases g with g | ⟨ks, q, b, e, hk, rfl, kq, l⟩
  · exact d_notIn (by omega) I g ry h
  · cases ry
    obtain ⟨hd, z, xs, rel, dd⟩ := nd_of I.hok e hk
    refine wpAny_notIn_heap (show (nestedKind X.prog X.w).room A.in1 from by show A.in1.units + 8 < cLine; have : A.in1.units = A.units + 1 := rfl; omega) (kq.is I.hok) hd dd ?_
    have q2 := (rel.val q).isSome_eq
    rw [Option.isSome_map] at q2
    rw [← q2, l]
    exact h _ (I.tok _)
theorem g_setItem {Q : Unit → Shared → Prop} (hu : A.units + 65 < cLine) (I : Inv X pins σ H s) (g : GPut X.prog X.w H a y v H') (ry : RelV y u) (rv : RelV v r) (h : ∀ s', Inv X pins σ H' s' → Q () s') :
    wpAny (model X.prog X.w) A (setItem (.ref a) u r) Q E s := by
  rcases g with g | ⟨ks, q, b, e, hk, rfl, kq, l, rfl⟩
  · exact d_setItem (by omega) I g ry rv h
  · cases ry
    obtain ⟨hd, z, xs, rel, dd⟩ := nd_of I.hok e hk
    have hz : xs.length ≤ sizeLine := by rw [← Paired.length rel]; exact z
    have hl : (putN' ks q b v).length ≤ sizeLine := by have := putN'_len ks q b v; omega
    refine wpAny_setItem_heap (hsz := hz) (show (nestedKind X.prog X.w).room A.in1 from by show A.in1.units + 8 < cLine; have : A.in1.units = A.units + 1 := rfl; omega) (kq.is I.hok) dd fun h' dd' hs => h _ ?_
    have he : ∃ q, h'.get? a = some q := let ⟨q, _, _, hq, _⟩ := dd'; ⟨q, hq⟩
    exact d_write I (by rw [e]; exact True.intro) hs he (nd_new hd hl (rel.put rv) dd')
theorem g_get1 {Q : Value → Shared → Prop} (hu : A.units + 65 < cLine) (I : Inv X pins σ H s) (g : GGet X.prog X.w H a y o) (ry : RelV y u) (h : ∀ w' s', Inv X pins σ H s' → RelV (o.getD .non) w' → Q w' s') :
    wpAny (model X.prog X.w) A (call (.builtin "dict.get") [.ref a, u]) Q E s := by
  rcases g with g | ⟨ks, q, b, e, hk, rfl, kq, l⟩
  · exact d_get1 (by omega) I g ry h
  · cases ry
    obtain ⟨hd, z, xs, rel, dd⟩ := nd_of I.hok e hk
    refine call_meetsIn PySem.F.slot_dict_get dd.typeIs PySem.F.entry_dict_get (PySem.F.args_dict_get_2 _ _) (meetsH_dict_get (nestedKind X.prog X.w) a b hd) ⟨(show (nestedKind X.prog X.w).room A.in1 from by show A.in1.units + 8 < cLine; have : A.in1.units = A.units + 1 := rfl; omega), q, xs, kq.is I.hok, dd, h _ _ (I.tok _) ?_⟩
    rw [← l]
    exact (rel.val q).getD rfl
theorem g_get2 {Q : Value → Shared → Prop} (hu : A.units + 65 < cLine) (I : Inv X pins σ H s) (g : GGet X.prog X.w H a y o) (ry : RelV y u) (rd : RelV d r) (h : ∀ w' s', Inv X pins σ H s' → RelV (o.getD d) w' → Q w' s') :
    wpAny (model X.prog X.w) A (call (.builtin "dict.get") [.ref a, u, r]) Q E s := by
  rcases g with g | ⟨ks, q, b, e, hk, rfl, kq, l⟩
  · exact d_get2 (by omega) I g ry rd h
  · cases ry
    obtain ⟨hd, z, xs, rel, dd⟩ := nd_of I.hok e hk
    refine call_meetsIn PySem.F.slot_dict_get dd.typeIs PySem.F.entry_dict_get (PySem.F.args_dict_get_3 _ _ _) (meetsH_dict_get_default (nestedKind X.prog X.w) a b hd r) ⟨(show (nestedKind X.prog X.w).room A.in1 from by show A.in1.units + 8 < cLine; have : A.in1.units = A.units + 1 := rfl; omega), q, xs, kq.is I.hok, dd, h _ _ (I.tok _) ?_⟩
    rw [← l]
    exact (rel.val q).getD rd
end
/-! ### on data -/
/-- what stands at a key; none outside: the key is of the other kind -/
def dgetD (t : Bool) (kvs : List (D × D)) (k : D) : Option (Option D) := match t with
  | false => match k with
    | .int _ => some ((kvs.find? fun p => decide (p.1 = k)).map (·.2))
    | .str _ => some ((kvs.find? fun p => decide (p.1 = k)).map (·.2))
    | _ => none
  | true => match k with
    | .tup _ => match keyN k with
      | some q => if q.depth ≤ 8 then some ((kvs.find? fun p => decide (keyN p.1 = some q)).map (·.2)) else none
      | none => none
    | _ => none
def dputD (t : Bool) (kvs : List (D × D)) (k v : D) : Option (List (D × D)) := match t with
  | false => match k with
    | .int _ => some (if (kvs.find? fun p => decide (p.1 = k)).isSome then kvs.map fun p => if p.1 = k then (p.1, v) else p else kvs ++ [(k, v)])
    | .str _ => some (if (kvs.find? fun p => decide (p.1 = k)).isSome then kvs.map fun p => if p.1 = k then (p.1, v) else p else kvs ++ [(k, v)])
    | _ => none
  | true => match k with
    | .tup _ => match keyN k with
      | some q => if q.depth ≤ 8 then some (if (kvs.find? fun p => decide (keyN p.1 = some q)).isSome then kvs.map fun p => if keyN p.1 = some q then (p.1, v) else p else kvs ++ [(k, v)]) else none
      | none => none
    | _ => none
section
variable {T : Tb} {M : Mu} {H : Hp} {st : DSto}
theorem keyD_inj {a b : Key} (h : keyD a = keyD b) : a = b := by
  cases a <;> cases b <;> simp_all [keyD]
/-- the entry of a key -/
theorem rk_get (q : Key) : ∀ {kvs : List (D × D)} {ks : List (Key × V)}, RK T M H kvs ks →
    (((kvs.find? fun p => decide (p.1 = keyD q)) = none ∧ valV ks q = none) ∨ ∃ p v, (kvs.find? fun p => decide (p.1 = keyD q)) = some p ∧ valV ks q = some v ∧ RV T M H p.2 v)
  | [], _, r => by simp only [RK] at r; subst r; exact .inl ⟨rfl, rfl⟩
  | (k, d) :: kvs, _, r => by
    simp only [RK] at r
    obtain ⟨g, v, ws, rfl, rfl, r1, r2⟩ := r
    by_cases e : g = q
    · subst e
      exact .inr ⟨(keyD g, d), v, by simp, valV_pos rfl, r1⟩
    · have e2 : ¬ keyD g = keyD q := fun z => e (keyD_inj z)
      rw [valV_neg e, List.find?_cons_of_neg (by simpa using e2)]
      exact rk_get q r2
theorem rn_get (q : NestedKey) : ∀ {kvs : List (D × D)} {ks : List (NestedKey × Addr × V)}, RN T M H kvs ks →
    (((kvs.find? fun p => decide (keyN p.1 = some q)) = none ∧ valN ks q = none) ∨ ∃ p v, (kvs.find? fun p => decide (keyN p.1 = some q)) = some p ∧ valN ks q = some v ∧ RV T M H p.2 v)
  | [], _, r => by simp only [RN] at r; subst r; exact .inl ⟨rfl, rfl⟩
  | (k, d) :: kvs, _, r => by
    simp only [RN] at r
    obtain ⟨g, b, v, ws, rfl, h1, _, _, r1, r2⟩ := r
    by_cases e : g = q
    · subst e
      exact .inr ⟨(k, d), v, by simp [h1], by simp [valN], r1⟩
    · have e2 : ¬ keyN k = some q := fun z => e (Option.some.inj (h1.symm.trans z))
      have := rn_get q r2
      rw [List.find?_cons_of_neg (by simpa using e2)]
      simpa [valN, e] using this
theorem rn_keys : ∀ {kvs : List (D × D)} {ks : List (NestedKey × Addr × V)}, RN T M H kvs ks → ∀ p ∈ ks, NK H p.1 p.2.1
  | [], _, r, p, hp => by simp only [RN] at r; subst r; cases hp
  | (k, d) :: kvs, _, r, p, hp => by
    simp only [RN] at r
    obtain ⟨g, b, v, ws, rfl, h1, h2, h3, r1, r2⟩ := r
    rcases List.mem_cons.mp hp with e | hp
    · subst e; exact ⟨keyN_is h1 h3, h2⟩
    · exact rn_keys r2 p hp
/-- what a dict answers at a key -/
theorem ggetD {x k : D} {t : Bool} {kvs : List (D × D)} {v y : V} {o : Option D} (s : SOk T M H st) (r : RV T M H x v) (q : dctD x st = some (t, kvs)) (ry : RV T M H k y) (h : dgetD t kvs k = some o) :
    ∃ a ov, v = .ref a ∧ GGet T.P T.w H a y ov ∧ ((o = none ∧ ov = none) ∨ ∃ d w, o = some d ∧ ov = some w ∧ RV T M H d w) := by
  obtain ⟨a, rfl, hh⟩ := dctD_of s r q
  rcases hh with ⟨rfl, ks, e, rk⟩ | ⟨rfl, ks, e, rn⟩
  · have fin : ∀ g : Key, k = keyD g → y = kV g → some ((kvs.find? fun p => decide (p.1 = k)).map (·.2)) = some o → ∃ b ov, V.ref a = .ref b ∧ GGet T.P T.w H b y ov ∧ ((o = none ∧ ov = none) ∨ ∃ d w, o = some d ∧ ov = some w ∧ RV T M H d w) := fun g eg ey h => by
      subst eg ey
      cases h
      refine ⟨a, valV ks g, rfl, .inl (.inl ⟨ks, g, e, rfl, rfl⟩), ?_⟩
      rcases rk_get g rk with ⟨h1, h2⟩ | ⟨p, v, h1, h2, h3⟩
      · rw [h1]; exact .inl ⟨rfl, h2⟩
      · rw [h1]; exact .inr ⟨p.2, v, rfl, h2, h3⟩
    cases k with
    | int i => simp only [RV] at ry; exact fin (.inl i) rfl ry h
    | str i => simp only [RV] at ry; exact fin (.inr i) rfl ry h
    | _ => cases h
  · unfold dgetD at h
    cases k with
    | tup xs =>
      dsimp only at h
      cases qk : keyN (.tup xs) with
      | none => rw [qk] at h; cases h
      | some g =>
        rw [qk] at h
        dsimp only at h
        by_cases hd : g.depth ≤ 8
        · rw [if_pos hd] at h
          cases h
          have ki := keyN_is qk ry
          simp only [RV] at ry
          obtain ⟨b, vs, rfl, _⟩ := ry
          refine ⟨a, valN ks g, rfl, .inr ⟨ks, g, b, e, rn_keys rn, rfl, ⟨ki, hd⟩, rfl⟩, ?_⟩
          rcases rn_get g rn with ⟨h1, h2⟩ | ⟨p, v, h1, h2, h3⟩
          · rw [h1]; exact .inl ⟨rfl, h2⟩
          · rw [h1]; exact .inr ⟨p.2, v, rfl, h2, h3⟩
        · rw [if_neg hd] at h; cases h
    | _ => cases h
theorem rk_map (q : Key) {d : D} {v : V} (r : RV T M H d v) : ∀ {kvs : List (D × D)} {ks : List (Key × V)}, RK T M H kvs ks → RK T M H (kvs.map fun p => if p.1 = keyD q then (p.1, d) else p) (ks.map fun kv => if kv.1 = q then (kv.1, v) else kv)
  | [], _, rk => by simp only [RK] at rk; subst rk; simp [RK]
  | (k, e) :: kvs, _, rk => by
    simp only [RK] at rk
    obtain ⟨g, w, ws, rfl, rfl, r1, r2⟩ := rk
    simp only [List.map_cons]
    by_cases e : g = q
    · subst e
      simp only [if_true, RK]
      exact ⟨g, v, _, rfl, rfl, r, rk_map g r r2⟩
    · have e2 : ¬ keyD g = keyD q := fun z => e (keyD_inj z)
      simp only [e, e2, if_false, RK]
      exact ⟨g, w, _, rfl, rfl, r1, rk_map q r r2⟩
theorem rk_snoc {q : Key} {d : D} {v : V} (r : RV T M H d v) : ∀ {kvs : List (D × D)} {ks : List (Key × V)}, RK T M H kvs ks → RK T M H (kvs ++ [(keyD q, d)]) (ks ++ [(q, v)])
  | [], _, rk => by simp only [RK] at rk; subst rk; simp only [List.nil_append, RK]; exact ⟨q, v, [], rfl, rfl, r, rfl⟩
  | (k, e) :: kvs, _, rk => by
    simp only [RK] at rk
    obtain ⟨g, w, ws, rfl, rfl, r1, r2⟩ := rk
    simp only [List.cons_append, RK]
    exact ⟨g, w, _, rfl, rfl, r1, rk_snoc r r2⟩
theorem rn_map (q : NestedKey) {d : D} {v : V} (r : RV T M H d v) : ∀ {kvs : List (D × D)} {ks : List (NestedKey × Addr × V)}, RN T M H kvs ks → RN T M H (kvs.map fun p => if keyN p.1 = some q then (p.1, d) else p) (ks.map fun p => if p.1 = q then (p.1, p.2.1, v) else p)
  | [], _, rk => by simp only [RN] at rk; subst rk; simp [RN]
  | (k, e) :: kvs, _, rk => by
    simp only [RN] at rk
    obtain ⟨g, b, w, ws, rfl, h1, h2, h3, r1, r2⟩ := rk
    simp only [List.map_cons]
    by_cases e : g = q
    · subst e
      rw [if_pos h1, if_pos rfl]
      simp only [RN]
      exact ⟨g, b, v, _, rfl, h1, h2, h3, r, rn_map g r r2⟩
    · have e2 : ¬ keyN k = some q := fun z => e (Option.some.inj (h1.symm.trans z))
      rw [if_neg e2, if_neg e]
      simp only [RN]
      exact ⟨g, b, w, _, rfl, h1, h2, h3, r1, rn_map q r r2⟩
theorem rn_snoc {q : NestedKey} {k d : D} {b : Addr} {v : V} (h1 : keyN k = some q) (h2 : q.depth ≤ 8) (h3 : RV T M H k (.ref b)) (r : RV T M H d v) : ∀ {kvs : List (D × D)} {ks : List (NestedKey × Addr × V)}, RN T M H kvs ks → RN T M H (kvs ++ [(k, d)]) (ks ++ [(q, b, v)])
  | [], _, rk => by simp only [RN] at rk; subst rk; simp only [List.nil_append, RN]; exact ⟨q, b, v, [], rfl, h1, h2, h3, r, rfl⟩
  | (k, e) :: kvs, _, rk => by
    simp only [RN] at rk
    obtain ⟨g, b, w, ws, rfl, h4, h5, h6, r1, r2⟩ := rk
    simp only [List.cons_append, RN]
    exact ⟨g, b, w, _, rfl, h4, h5, h6, r1, rn_snoc h1 h2 h3 r r2⟩
/-- d[k] = v on a dict of the store -/
theorem gputD {n : Nat} {k dv : D} {t : Bool} {kvs kvs' : List (D × D)} {v y z : V} (s : SOk T M H st) (r : RV T M H (.ref n) v) (q : st[n]? = some (.dct t kvs)) (ry : RV T M H k y) (rz : RV T M H dv z) (hl : kvs.length < sizeLine) (h : dputD t kvs k dv = some kvs') :
    ∃ a H', v = .ref a ∧ GPut T.P T.w H a y z H' ∧ SOk T M H' (st.set n (.dct t kvs')) ∧ Ex M H M H' := by
  simp only [RV] at r
  obtain ⟨a, rfl, e1⟩ := r
  have ma := List.mem_of_getElem? e1
  rcases s.ro n _ a q e1 with ⟨rfl, ks, e, rk⟩ | ⟨rfl, ks, e, rn⟩
  · have fin : ∀ g : Key, k = keyD g → y = kV g → (if (kvs.find? fun p => decide (p.1 = k)).isSome then kvs.map fun p => if p.1 = k then (p.1, dv) else p else kvs ++ [(k, dv)]) = kvs' → ∃ b H', V.ref a = .ref b ∧ GPut T.P T.w H b y z H' ∧ SOk T M H' (st.set n (.dct false kvs')) ∧ Ex M H M H' := fun g eg ey h => by
      subst eg ey
      have x3 : Ex M H M (upd H a (.dK (putK ks g z))) := ex_write ma
      refine ⟨a, _, rfl, .inl (.k e (by rw [rk.len]; exact hl)), sok_write s e1 (.inl ⟨rfl, _, upd_same, ?_⟩), x3⟩
      have rk2 := rk.mo x3.mo
      have rz2 := rz.ex x3
      subst h
      revert rk2 rz2
      generalize upd H a (.dK (putK ks g z)) = H2
      intro rk2 rz2
      unfold putK
      rw [valV_any]
      rcases rk_get g rk with ⟨h1, h2⟩ | ⟨p, w, h1, h2, h3⟩
      · rw [h1, h2]; exact rk_snoc rz2 rk2
      · rw [h1, h2]; exact rk_map g rz2 rk2
    cases k with
    | int i => simp only [RV] at ry; exact fin (.inl i) rfl ry (Option.some.inj h)
    | str i => simp only [RV] at ry; exact fin (.inr i) rfl ry (Option.some.inj h)
    | _ => cases h
  · unfold dputD at h
    cases k with
    | tup xs =>
      dsimp only at h
      cases qk : keyN (.tup xs) with
      | none => rw [qk] at h; cases h
      | some g =>
        rw [qk] at h
        dsimp only at h
        by_cases hd : g.depth ≤ 8
        · rw [if_pos hd] at h
          have ki := keyN_is qk ry
          have ry' := ry
          simp only [RV] at ry'
          obtain ⟨b, vs, rfl, _⟩ := ry'
          have x3 : Ex M H M (upd H a (.ext (NdO T.P T.w a (putN' ks g b z)))) := ex_write ma
          refine ⟨a, _, rfl, .inr ⟨ks, g, b, e, rn_keys rn, rfl, ⟨ki, hd⟩, by rw [rn.len]; exact hl, rfl⟩, sok_write s e1 (.inr ⟨rfl, _, upd_same, ?_⟩), x3⟩
          have rn2 := rn.mo x3.mo
          have rz2 := rz.ex x3
          have ry2 := ry.ex x3
          have h := Option.some.inj h
          subst h
          revert rn2 rz2 ry2
          generalize upd H a (.ext (NdO T.P T.w a (putN' ks g b z))) = H2
          intro rn2 rz2 ry2
          unfold putN'
          rcases rn_get g rn with ⟨h1, h2⟩ | ⟨p, w, h1, h2, h3⟩
          · rw [h1, h2]; exact rn_snoc qk hd ry2 rz2 rn2
          · rw [h1, h2]; exact rn_map g rz2 rn2
        · rw [if_neg hd] at h; cases h
    | _ => cases h
end

/-! ### the operators -/
def ixO : OpD := fun x y st => match dctD x st with
  | some (t, kvs) => match dgetD t kvs y with
    | some (some v) => some (v, st)
    | _ => none
  | none => ixS x y st
def inO : OpD := fun x y st => match dctD y st with
  | some (t, kvs) => (dgetD t kvs x).map fun o => (.bl o.isSome, st)
  | none => memO false x y st
def ninO : OpD := fun x y st => match dctD y st with
  | some (t, kvs) => (dgetD t kvs x).map fun o => (.bl (!o.isSome), st)
  | none => memO true x y st
def lenO : OpL := fun ds st => match ds with
  | [x] => match dctD x st with
    | some (_, kvs) => some (.int kvs.length, st)
    | none => lenS ds st
  | _ => none
def setO : SetD := fun o i v st => match o with
  | .ref n => match st[n]? with
    | some (.dct t kvs) => if kvs.length < sizeLine then (dputD t kvs i v).map fun kvs' => st.set n (.dct t kvs') else none
    | _ => setLO o i v st
  | _ => none
/-- the table's program and world -/
def TW (P : Program) (w : World) (T : Tb) : Prop := T.P = P ∧ T.w = w
/-- the context's program and world are the table's -/
structure Fit2 (X : Cx) (T : Tb) : Prop where
  K : X.K = T.K
  P : X.prog = T.P
  w : X.w = T.w
section
variable {X : Cx} {T : Tb} {W : WX} {a b : Expr} {da db : Den} {pos : Pos}
theorem ixx' (h2 : Fit2 X T) (hu : X.A.units + 65 < cLine) : IxR X (rD T ixO) := fun value slice pins s σ H x y v u Q I rx ry ⟨M, d, e, st, so, r1, r2, h⟩ hs => by
  unfold ixO at h
  cases q : dctD d st with
  | none => rw [q] at h; exact ixx h2.K value slice pins s σ H x y v u Q I rx ry ⟨M, d, e, st, so, r1, r2, h⟩ hs
  | some p =>
    obtain ⟨t, kvs⟩ := p
    rw [q] at h
    dsimp only at h
    cases q2 : dgetD t kvs e with
    | none => rw [q2] at h; exact h.elim
    | some o =>
      obtain ⟨ad, ov, rfl, g, hh⟩ := ggetD so r1 q r2 q2
      rw [← h2.P, ← h2.w] at g
      rw [q2] at h
      rcases hh with ⟨rfl, _⟩ | ⟨dv, w, rfl, rfl, rw'⟩
      · exact h.elim
      · cases rx
        have gt : s.TypeIs (.ref ad) "dict" := by
          rcases g with g | ⟨ks, q, b, e, hk, _⟩
          · exact dict_typeIs I g
          · obtain ⟨_, _, xs, _, dd⟩ := nd_of I.hok e hk
            exact dd.typeIs
        exact tail_any gt slot_dict_getitem.lookup (g_getItem hu I g ry fun w' s' I' rw2 => ⟨w, H, I', rw2, PostO.fin so rw' h⟩) hs
theorem px_ix (h2 : Fit2 X T) (hu : X.A.units + 65 < cLine) (ha : PX X T W a da) (hb : PX X T W b db) (hs : PlainIx b := by exact fun _ _ => rfl) : PX X T W (.Subscript a b pos) (dOp ixO da db) :=
  pe_imp (pe_ix (ixx' h2 hu) ha hb hs) fun _ _ _ h => tOp_of h
theorem ox_in' (h2 : Fit2 X T) (hu : X.A.units + 65 < cLine) : OpX X T (compareOp .In) inO := fun pins s σ H x y v u Q I rx ry ⟨M, d, e, st, so, r1, r2, h⟩ => by
  unfold inO at h
  cases q : dctD e st with
  | none => rw [q] at h; exact ox_in h2.K hu pins s σ H x y v u Q I rx ry ⟨M, d, e, st, so, r1, r2, h⟩
  | some p =>
    obtain ⟨t, kvs⟩ := p
    rw [q] at h
    dsimp only at h
    cases q2 : dgetD t kvs d with
    | none => rw [q2] at h; exact h.elim
    | some o =>
      obtain ⟨ad, ov, rfl, g, hh⟩ := ggetD so r2 q r1 q2
      rw [← h2.P, ← h2.w] at g
      rw [q2] at h
      cases ry
      refine g_in hu I g rx fun s' I' => ⟨.bl ov.isSome, H, I', rfl, ?_⟩
      have e2 : ov.isSome = o.isSome := by
        rcases hh with ⟨rfl, rfl⟩ | ⟨dv, w, rfl, rfl, _⟩ <;> rfl
      rw [e2]
      exact PostO.fin so (by simp [RV]) h
theorem ox_nin' (h2 : Fit2 X T) (hu : X.A.units + 65 < cLine) : OpX X T (compareOp .NotIn) ninO := fun pins s σ H x y v u Q I rx ry ⟨M, d, e, st, so, r1, r2, h⟩ => by
  unfold ninO at h
  cases q : dctD e st with
  | none => rw [q] at h; exact ox_nin h2.K hu pins s σ H x y v u Q I rx ry ⟨M, d, e, st, so, r1, r2, h⟩
  | some p =>
    obtain ⟨t, kvs⟩ := p
    rw [q] at h
    dsimp only at h
    cases q2 : dgetD t kvs d with
    | none => rw [q2] at h; exact h.elim
    | some o =>
      obtain ⟨ad, ov, rfl, g, hh⟩ := ggetD so r2 q r1 q2
      rw [← h2.P, ← h2.w] at g
      rw [q2] at h
      cases ry
      refine g_notIn hu I g rx fun s' I' => ⟨.bl (!ov.isSome), H, I', rfl, ?_⟩
      have e2 : ov.isSome = o.isSome := by
        rcases hh with ⟨rfl, rfl⟩ | ⟨dv, w, rfl, rfl, _⟩ <;> rfl
      rw [e2]
      exact PostO.fin so (by simp [RV]) h
/-- len(d) of a dict whose keys are tuples -/
theorem call_len_N {X : Cx} : CallR X (.builtin "len") (fun xs H Q => ∃ a ks, xs = [V.ref a] ∧ H a = some (.ext (NdO X.prog X.w a ks)) ∧ (∀ p ∈ ks, NK H p.1 p.2.1) ∧ Q (.int ks.length) H) := by
  intro pins s σ H xs us Q I r h
  obtain ⟨a, ks, rfl, e, hk, q⟩ := h
  obtain ⟨u, rfl, ru⟩ := vals1 r
  obtain rfl : u = Value.ref a := ru
  obtain ⟨hd, z, ys, rel, dd⟩ := nd_of I.hok e hk
  have hl : ks.length = ys.length := Paired.length rel
  refine call_len_dictH hd dd (by rw [← hl]; rw [sizeLine_eq] at z; omega) ?_
  rw [← hl]
  exact ⟨.int ((ks.length : Nat) : Int), H, I.tok _, ⟨_, rfl⟩, q⟩
theorem cx_len (h2 : Fit2 X T) : CallX X T (.builtin "len") lenO := fun pins s σ H xs us Q I r ⟨M, ds, st, so, rv, h⟩ => by
  unfold lenO at h
  split at h
  · rename_i x
    cases q : dctD x st with
    | none => simp only [q] at h; exact cx_lenS h2.K pins s σ H xs us Q I r ⟨M, _, st, so, rv, h⟩
    | some p =>
      obtain ⟨t, kvs⟩ := p
      simp only [q] at h
      obtain ⟨y, rfl, r1⟩ := rvs1 rv
      obtain ⟨a, rfl, ⟨_, ks, e, rk⟩ | ⟨_, ks, e, rn⟩⟩ := dctD_of so r1 q
      · obtain ⟨u, rfl, ru⟩ := vals1 r
        obtain rfl : u = Value.ref a := ru
        exact d_len I e fun t s' J => ⟨.int ((ks.length : Nat) : Int), H, J, ⟨t, rfl⟩, by rw [rk.len]; exact PostO.fin so (by simp [RV]) h⟩
      · rw [← h2.P, ← h2.w] at e
        exact call_len_N pins s σ H _ us Q I r ⟨a, ks, rfl, e, rn_keys rn, by rw [rn.len]; exact PostO.fin so (by simp [RV]) h⟩
  · exact h.elim
theorem sx_set (h2 : Fit2 X T) (hu : X.A.units + 65 < cLine) : SetX X T setO := fun pins s σ H o i v ov iv u Q I ro ri rv ⟨M, od, id, d, st, so, r1, r2, r3, h⟩ => by
  unfold setO at h
  cases od with
  | ref n =>
    dsimp only at h
    cases q : st[n]? with
    | none => simp only [q] at h; exact sx_lst pins s σ H o i v ov iv u Q I ro ri rv ⟨M, .ref n, id, d, st, so, r1, r2, r3, h⟩
    | some ob =>
      cases ob with
      | dct t kvs =>
        simp only [q] at h
        by_cases hl : kvs.length < sizeLine
        · rw [if_pos hl] at h
          cases q2 : dputD t kvs id d with
          | none => rw [q2] at h; exact h.elim
          | some kvs' =>
            rw [q2] at h
            obtain ⟨a, H', rfl, g, s', x⟩ := gputD so r1 q r2 r3 hl q2
            rw [← h2.P, ← h2.w] at g
            cases ro
            exact g_setItem hu I g ri rv fun s'' I' => ⟨H', I', h M H' s' x⟩
        · rw [if_neg hl] at h; exact h.elim
      | _ => simp only [q] at h; exact sx_lst pins s σ H o i v ov iv u Q I ro ri rv ⟨M, .ref n, id, d, st, so, r1, r2, r3, h⟩
  | _ => exact h.elim
end
end FV

set_option Elab.async false
set_option linter.all false
set_option maxRecDepth 100000
set_option maxHeartbeats 4000000
namespace FV
open PySem PySem.Spec PyProof.Rows L2

/-! ### __init__ of an own error: super().__init__(text), then its fields -/
theorem look_rev : ∀ {ps : List Str} {us : List Value} {i : Nat} {y : Str} {u : Value}, ps.Nodup → ps[i]? = some y → us[i]? = some u → (ps.zip us).reverse.lookup y = some u
  | [], _, _, _, _, _, h, _ => by simp at h
  | _ :: _, [], _, _, _, _, _, h => by simp at h
  | p :: ps, v :: us, 0, y, u, nd, h1, h2 => by
    rw [List.getElem?_cons_zero] at h1 h2
    cases h1; cases h2
    have hn : (ps.zip us).reverse.lookup p = none := by
      rw [List.lookup_eq_none_iff]
      intro q hq
      have := (List.of_mem_zip (List.mem_reverse.mp hq)).1
      have hne : p ≠ q.1 := fun z => (List.nodup_cons.mp nd).1 (by rw [z]; exact this)
      simpa using hne
    rw [List.zip_cons_cons, List.reverse_cons, List.lookup_append, hn]
    simp [List.lookup]
  | p :: ps, v :: us, i + 1, y, u, nd, h1, h2 => by
    rw [List.getElem?_cons_succ] at h1 h2
    rw [List.zip_cons_cons, List.reverse_cons, List.lookup_append, look_rev (List.nodup_cons.mp nd).2 h1 h2]
    rfl
/-- its scope: the parameters, the class above -/
structure SupScope (N P : List Str) (sc : Scope) : Prop where
  kind : sc.kind = .function
  co : sc.isCoroutine = false
  gen : sc.isGenerator = false
  nd : N.Nodup
  pre : N.take P.length = P
  par : ∀ x ∈ P, sc.names.lookup x = some .local
  nocell : ∀ y ∈ sc.names, y.2 ≠ .cell
  free : ∀ y ∈ sc.names, y.2 = .free → y.1 = ("__class__" : Str)
  sup : sc.names.lookup ("super" : Str) = some .globalImplicit
  cls : sc.names.lookup ("__class__" : Str) = some .free
abbrev envS (qual : Str) (scope : Scope) (L f : Addr) (cd : Value) (cc : Addr) : Env := PySem.W.ksEnv qual scope L f cd cc
def cxSup (P : Program) (w : World) (K : PySem.W.Frag) (mg : Str → Option Value) (base : Heap) (N : List Str) (qual : Str) (scope : Scope) (f : Addr) (cd : Value) (cc : Addr) (A : Around) (outer : List Env) (s : Shared) (H : Hp) (E : XK) : Cx where
  prog := P
  w := w
  K := K
  mg := mg
  base := base
  A := A.deeper (envS qual scope s.heap.objs.size f cd cc)
  N := N
  s_0 := s
  H_0 := H
  env := envS qual scope s.heap.objs.size f cd cc
  outer := outer
  stack := envS qual scope s.heap.objs.size f cd cc :: outer
  ex := []
  calm := true
  fn := fun _ => false
  pn := []
  xe := fun e s' => wpAny (model P w) (A.deeper (envS qual scope s.heap.objs.size f cd cc)) (leaving (envS qual scope s.heap.objs.size f cd cc) e) (fun _ s'' => L2.CX P w outer H s E e s'') (fun e' s'' => L2.CX P w outer H s E e' s'') s'
section
variable {P : Program} {w : World} {K : PySem.W.Frag} {mg : Str → Option Value} {base : Heap} {N ps : List Str} {qual : Str} {scope : Scope} {f cc : Addr} {cd : Value} {A : Around} {outer : List Env} {s : Shared} {H : Hp} {E : XK} {us : List Value} {vs : List V}
theorem look_cells {x : Str} {c : Addr} (h : (([("__class__", cc)] : List (Str × Addr))).lookup x = some c) : x = ("__class__" : Str) ∧ c = cc := by
  by_cases e : x = ("__class__" : Str)
  · subst e
    simp [List.lookup] at h
    exact ⟨rfl, h.symm⟩
  · have : (x == ("__class__" : Str)) = false := by simpa using e
    simp [List.lookup, this] at h
theorem inv_sup {oD : Obj} {D : Addr} {h1 : Heap} {tk : Tok} (S : SupScope N ps scope) (hd : A.handled = none) (e0 : Env0 P w K mg base A outer s H) (hl : vs.length = ps.length) (r : Vals vs us)
    (hcell : base.get? cc = some oD) (hcd : oD.data = .cell (some (.ref D)))
    (hns : h1.Ns s.heap.objs.size (fun x => (ps.zip us).reverse.lookup x)) (hk : ∀ b o, s.heap.get? b = some o → h1.get? b = some o) :
    Inv (cxSup P w K mg base N qual scope f cd cc A outer s H E) [] (L2.start N vs) H { s with heap := h1, toks := tk } := by
  have hpl : ps.length ≤ N.length := by have := congrArg List.length S.pre; rw [List.length_take] at this; omega
  have noA : ∀ b : Addr, b ∉ (cxSup P w K mg base N qual scope f cd cc A outer s H E).ex := fun b z => absurd (show b ∈ ([] : List Addr) from z) (by simp)
  have ecc := e0.bs cc oD hcell
  refine ⟨⟨e0.mod, S.kind, rfl, rfl, Nat.le_refl _, fun y z c h1 h2 => (look_cells h1).1.trans (look_cells h2).1.symm, fun y hy => ?_, fun y c z _ => absurd z Bool.false_ne_true, fun _ => hd, Around.frames_deeper e0.frames, .inr ⟨rfl, rfl⟩, fun b z => absurd z (noA b), e0.bs, e0.bsz, fun b _ _ => noA b, fun b z => absurd z (noA b), e0.funs, e0.frf⟩,
    rfl, e0.bare, Un.kept hk, ⟨_, hns, fun i y v h1 h2 h3 => ?_⟩, fun y c h => ?_, e0.hok.fresh (Nat.le_refl _), fun y c h => ?_, fun p hp => absurd (show p ∈ ([] : List (Addr × Obj)) from hp) (by simp), e0.hok.kept hk, ?_⟩
  · have hy : scope.names.lookup y = some .cell ∨ scope.names.lookup y = some .free := hy
    rcases hy with hy | hy
    · exact absurd rfl (S.nocell _ (PySem.mem_of_lookup hy))
    · have := S.free _ (PySem.mem_of_lookup hy) rfl
      exact ⟨cc, by show (([("__class__", cc)] : List (Str × Addr))).lookup y = some cc; rw [show y = ("__class__" : Str) from this]; rfl⟩
  · have hi : i < vs.length := by
      unfold L2.start at h2
      by_cases hi : i < vs.length
      · exact hi
      · rw [List.getElem?_append_right (by simpa using hi)] at h2
        rw [List.getElem?_replicate] at h2
        split at h2 <;> cases h2
    have ha : vs[i]? = some v := by
      unfold L2.start at h2
      rw [List.getElem?_append_left (by simpa using hi), List.getElem?_map] at h2
      cases e : vs[i]? with
      | none => rw [e] at h2; cases h2
      | some a => rw [e] at h2; cases h2; rfl
    obtain ⟨u, hu, rv⟩ := r.get ha
    have hp : ps[i]? = some y := by
      rw [← S.pre, List.getElem?_take_of_lt (by omega)]; exact h1
    have ndP : ps.Nodup := by rw [← S.pre]; exact S.nd.sublist (List.take_sublist _ _)
    exact ⟨u, rv, .inl ⟨S.par y (List.mem_of_getElem? hp), look_rev ndP hp hu⟩⟩
  · obtain ⟨_, rfl⟩ := look_cells (show (([("__class__", cc)] : List (Str × Addr))).lookup y = some c from h)
    exact ⟨_, oD, hk _ _ ecc.1, hcd⟩
  · obtain ⟨_, rfl⟩ := look_cells (show (([("__class__", cc)] : List (Str × Addr))).lookup y = some c from h)
    exact ecc.2
  · show (L2.start N vs).length = N.length
    unfold L2.start
    simp
    omega
end
/-- what the written part says of the class C of the error and of its __init__ at f -/
structure SupK (P : Program) (K : PySem.W.Frag) (C f cc : Addr) (cd : Value) : Prop where
  ox : OexC K C
  cell : ∃ oD, K.lookup cc = some oD ∧ oD.data = .cell (some (.ref C))
  over : PySem.W.nsIn K cStatics "thirdparty.any" = some none
  ini : PySem.W.ks_superIn K C C "__init__" = some (some (.builtin "ValueError.__init__"))
  self : PySem.W.mroIn K C (.ref C) = some true
  ve : PySem.W.mroIn K C (.type "ValueError") = some true
  code : ∃ cda o vs file tf, cd = .ref cda ∧ K.lookup cda = some o ∧ o.data = .fields vs ∧ vs[2]? = some (.str file tf) ∧ ((P.main.file : Str) == file) = true
  top : (P.main.scope.names.lookup ("super" : Str)).isSome = false
theorem boot_super : bootBuiltins "super" = some (.type "super") := by decide +kernel
section
variable {X : Cx} {pins : List (Addr × Obj)} {σ : L2.St} {H : Hp} {s : Shared} {C f cc a : Addr} {cd : Value}
/-- super().__init__(e) at the head of a def -/
theorem sup_call {body : List Stmt} {e : Expr} {p0 p1 p2 p3 : Pos} {fd : FuncData} {oc : Value} {od : Option Addr} {osl : Array (Option Value)} {ar : Arg} {ta : TA} {pl : Sem Bool} {Q : Hp → Prop}
    (T : SupK X.prog X.K C f cc cd) (I : Inv X pins σ H s) (hN : X.N[0]? = some ar.arg) (h0 : σ[0]? = some (some (.ref a))) (hloc : X.env.kindOf ar.arg = some .local) (hsup : X.env.kindOf "super" = some .globalImplicit) (hcls : X.env.kindOf "__class__" = some .free)
    (hcells : X.env.cells.lookup ("__class__" : Str) = some cc) (hfu : X.env.func = some f) (hco : X.env.code = cd) (hms : X.mg "super" = none)
    (lk : X.K.lookup f = some ⟨oc, od, .func fd, osl⟩) (hp : (fd.params.posonlyargs ++ fd.params.args).head? = some ar)
    (ea : H a = some (exo a C none)) (ha : PA X [e] ta) (hte : ta σ H fun vs H1 => vs.length ≤ 1000 ∧ H1 a = some (exo a C none) ∧ Q H1)
    (heq : eval (.Call (.Attribute (.Call (.Name "super" p0) [] [] p1) "__init__" p2) [e] [] p3) X.env = (do
      let ov ← attributeBase (.Call (.Name "super" p0) [] [] p1) "__init__" X.env (eval (.Call (.Name "super" p0) [] [] p1) X.env)
      standAt p2.atName
      let (f, first) ← holding [ov] (getMethod ov "__init__" pl)
      callWith p3 f first (backTo p3 (starEach [e] X.env)) []) := by rfl)
    (hst : starEach [e] X.env = (false, eval e X.env) :: starEach [] X.env := by rfl) :
    _root_.PySem.wpAt (model X.prog X.w) X.A (.func body X.env) (eval (.Call (.Attribute (.Call (.Name "super" p0) [] [] p1) "__init__" p2) [e] [] p3) X.env) (fun _ s' => ∃ H', Inv X pins σ H' s' ∧ Q H') X.xe s := by
  obtain ⟨cda, oc2, vs2, file, tf, hcd, hcode, hoc, hvs, hfile⟩ := T.code
  obtain ⟨nm, q, Nn, bs, bm, sn, sub, ab, col, dd, k0, k1, k2, k3, k5, hC, hbm⟩ := T.ox.cls
  obtain ⟨oD, hcl1, hcl2⟩ := T.cell
  obtain ⟨t1, ho⟩ := exo_at I.hok ea
  obtain ⟨m, hns, hlook⟩ := id I.loc
  have hvis : Vis X.env.scope ar.arg := .inl hloc
  obtain ⟨u, ru, lu⟩ := hlook 0 ar.arg (.ref a) hN h0 hvis
  obtain rfl : u = Value.ref a := ru
  have hm0 : m ar.arg = some (.ref a) := by
    rcases lu with ⟨_, e⟩ | ⟨e, _⟩
    · exact e
    · rw [hloc] at e
      rcases e with e | e <;> cases e
  have hck := I.kIn _ _ hC
  have kin := I.kIn
  have hkind := I.ok.kind
  obtain ⟨mb, hb1, hb2⟩ := I.mod.blt
  have hglob : s.heap.Ns X.env.globals X.mg := by rw [I.ok.glob]; exact I.mod.glob.keeps I.bk
  have hblt : s.heap.Ns X.env.builtins mb := by rw [I.ok.blt]; exact hb1.keeps I.bk
  have hclsD : PySem.W.clsIn X.K C = some { name := nm, bases := bs, mro := .ref C :: bm, ns := Nn, qualname := q, hasDict := true, slotNames := sn, subclasses := sub, abstract := ab, collection := col, hasDel := false } := by unfold PySem.W.clsIn; rw [hC] <;> rfl
  refine PySem.ks_wpAt_MethodCall (pl := pl) ?_ heq
  refine PySem.ks_wpAt_super_base hsup hcls (by decide) hfu (kin _ _ lk) rfl hp (hco.trans hcd) (kin _ _ hcode) hoc hvs hfile T.top ?_
  refine PySem.W.ks_loadName_global hkind hsup (Calls.loadGlobal_builtin hglob hms hblt ((hb2 _ (by decide)).trans boot_super) ⟨rfl, ?_⟩)
  refine wpAny_loadName_free hkind hcls hcells ⟨oD, kin _ _ hcl1, hcl2⟩ ?_
  refine wpAny_loadName_local hkind hloc hns hm0 ?_
  refine PySem.ks_wpAny_isType_cls hck rfl ⟨rfl, ?_⟩
  obtain ⟨hh, g, d, t, os⟩ := s
  refine PySem.ks_wpAny_call_super hck rfl ho rfl (fun c z => by cases z) (PySem.W.looks_mroIn kin T.self) (fun h1 e1 kk1 => ?_)
  have I1 : Inv X pins σ H ⟨h1, g, d, t, os⟩ := I.kept (t' := t) kk1
  have hio : PySem.W.Looks (model X.prog X.w) h1 (isInstance (.ref a) (.type "ValueError")) true := by
    refine PySem.W.Looks.andThen (a := Value.ref C) ?_ (PySem.W.looks_mroIn I1.kIn T.ve)
    exact fun A Q E s k q => wpAny_typeOf_ref (k _ _ (kk1 _ _ ho)) q
  have hini := T.ini
  unfold PySem.W.ks_superIn at hini
  rw [hclsD] at hini
  refine PySem.W.kxs_getMethod PySem.W.kxs_ValueError e1 (PySem.W.looks_opaque I1.kIn T.over) (l₀ := .ref C :: bm) ?_ rfl I1.kIn hini hio ?_ (by decide) ?_
  · exact fun A Q E s k q => wpAny_bind ((PySem.W.looks_clsIn I1.kIn hclsD) A _ E s k (wpAny_pure q))
  · rintro rfl
    rw [hck] at ho
    cases ho
  have I2 : Inv X pins σ H ⟨h1.push (PySem.W.kxs_mw "ValueError.__init__" a), g, d, t + 1, os⟩ := I1.kept (t' := t + 1) fun b o z => Heap.get?_push_of_some _ z
  have hpin : Inv X (pins ++ [(h1.objs.size, PySem.W.kxs_mw "ValueError.__init__" a)]) σ H ⟨h1.push (PySem.W.kxs_mw "ValueError.__init__" a), g, d, t + 1, os⟩ := I2.pins_of fun p hp => by
    rcases List.mem_append.mp hp with z | z
    · exact I2.pin p (List.mem_append_right _ z)
    · rw [List.mem_singleton.mp z]
      refine ⟨Heap.get?_push_size _ rfl, I1.hok.fresh (Nat.le_refl _), fun z => ?_, I1.nofs (Nat.le_refl _), fun v z => by cases z⟩
      exact absurd I1.lt (by rw [← z]; exact Nat.lt_irrefl _)
  show wpAny _ _ (callWith p3 (.ref h1.objs.size) [] (backTo p3 (starEach [e] X.env)) []) _ _ _
  have hrun := ha.run p3 (pins ++ [(h1.objs.size, PySem.W.kxs_mw "ValueError.__init__" a)]) _ σ H _ hpin hte
  rw [hst] at hrun ⊢
  refine PySem.W.kxs_callWith (i := "ValueError.__init__") (x := a) (by show (false || (backTo p3 (starEach [] X.env)).any (·.1)) = false; rfl) ?_
  refine Calls.evalArgs_plain (thn hrun fun us s1 ⟨vs, H1, J1, r1, hl, ea1, hq⟩ => ?_)
  have hmw := (J1.pin (h1.objs.size, PySem.W.kxs_mw "ValueError.__init__" a) (by simp)).1
  have J2 : Inv X pins σ H1 s1 := J1.pins_of fun p hp => J1.pin p (List.mem_append_right _ (List.mem_append_left _ hp))
  refine ⟨hmw, ?_⟩
  obtain ⟨t2, ho2⟩ := exo_at J2.hok ea1
  have hC2 := J2.kIn _ _ hC
  have hus : us.length ≤ sizeLine := by
    rw [← Paired.length r1, sizeLine_eq]
    omega
  have fin : ∀ h', (∀ b o, b ≠ a → s1.heap.get? b = some o → h'.get? b = some o) → h'.get? a = some (PySem.HandSPX.excO C s1.heap.objs.size) → ∃ H', Inv X pins σ H' { s1 with heap := h' } ∧ Q H' := fun h' k hx => by
    have J := J2.write (t' := s1.toks) (x := a) (e := a) (o := exo a C none) (by rw [ea1]; exact True.intro) (.inl rfl) k ⟨_, hx⟩ (exo_ok hx)
    have eu : upd H1 a (exo a C none) = H1 := by
      funext b
      by_cases hb : b = a
      · rw [hb, upd_same, ea1]
      · rw [upd_ne hb]
    rw [eu] at J
    exact ⟨H1, J, hq⟩
  obtain ⟨hh3, g3, d3, tk3, os3⟩ := s1
  refine wpAny_call (codeAny_of_tree ?_)
  show wpAny _ X.A.in1 (callAny (.ref h1.objs.size) ⟨us, []⟩) _ _ _
  simp only [callAny]
  refine wpAny_bind (wpAny_load hmw ?_)
  simp only [PySem.W.kxs_mw, show (Value.type "method-wrapper" == Value.type "method" || Value.type "method-wrapper" == Value.type "builtin_function_or_method" || Value.type "method-wrapper" == Value.type "method-wrapper") = true by decide, if_true]
  refine PySem.W.KFB.if_so (by decide) ?_
  refine wpAny_bind (PySem.W.check_bound_init F.excBase_ValueError.toExcCallFacts hC2 ho2 rfl ?_)
  refine wpAny_bind (wpAny_pure (wpAny_pure ?_))
  refine ⟨plainId_quiet F.excBase_ValueError.init.plain _, codeAny_builtin F.excBase_ValueError.initEntry ?_⟩
  exact PySem.W.exc_init_tree (cls := .ref C) (t0 := t2) (dv := none) (c2 := .none) (c3 := .none) (b4 := .bool false) ho2 hus fun h' k hx _ => fin h' k hx
end
section
variable {P : Program} {w : World} {K : PySem.W.Frag} {mg : Str → Option Value} {base : Heap} {N ps : List Str} {name qual : Str} {scope : Scope} {f C cc : Addr} {cdv : Value} {params : Arguments} {rest body : List Stmt} {dV kV doc pm ct oc : Value} {an od : Option Addr} {osl : Array (Option Value)} {k : Nat} {e : Expr} {p0 p1 p2 p3 p4 : Pos} {ar : Arg} {sp : Sp}
theorem fn_sup (lk : K.lookup f = some ⟨oc, od, .func (PySem.W.ksFn name qual params body scope dV kV doc pm an cdv ct cc), osl⟩) (hcd : PySem.W.codeIn K cdv qual = true) (S : SupScope N ps scope)
    (hbody : body = .Expr (.Call (.Attribute (.Call (.Name "super" p0) [] [] p1) "__init__" p2) [e] [] p3) p4 :: rest)
    (T : SupK P K C f cc cdv) (hms : mg "super" = none) (hp : (params.posonlyargs ++ params.args).head? = some ar) (hN : N[0]? = some ar.arg) (h0 : 0 < ps.length)
    (len : ∀ vs H Q E, sp vs H Q E → vs.length = ps.length)
    (hb : ∀ (A : Around) (outer : List Env) (s : Shared) (H : Hp) (vs : List V) (Q : VK) (E : XK), Room k (A.deeper (envS qual scope s.heap.objs.size f cdv cc)) → sp vs H Q E →
      ∃ a ws ta t, vs = .ref a :: ws ∧ H a = some (exo a C none) ∧ PA (cxSup P w K mg base N qual scope f cdv cc A outer s H E) [e] ta ∧ PSs (cxSup P w K mg base N qual scope f cdv cc A outer s H E) rest t ∧
        ta (L2.start N vs) H fun us H1 => us.length ≤ 1000 ∧ H1 a = some (exo a C none) ∧ t { nx := fun _ H' => Q .non H', rt := Q } (L2.start N vs) H1)
    (pl : Env → Sem Bool)
    (heq : ∀ env : Env, eval (.Call (.Attribute (.Call (.Name "super" p0) [] [] p1) "__init__" p2) [e] [] p3) env = (do
      let ov ← attributeBase (.Call (.Name "super" p0) [] [] p1) "__init__" env (eval (.Call (.Name "super" p0) [] [] p1) env)
      standAt p2.atName
      let (f, first) ← holding [ov] (getMethod ov "__init__" (pl env))
      callWith p3 f first (backTo p3 (starEach [e] env)) []) := by intro _; rfl)
    (hst : ∀ env : Env, starEach [e] env = (false, eval e env) :: starEach [] env := by intro _; rfl)
    (hsw : ∀ env : Env, swapsWith (.Call (.Attribute (.Call (.Name "super" p0) [] [] p1) "__init__" p2) [e] [] p3) none p4.line env = pure false := by intro _; rfl) :
    FnOk P w K mg base (L2.CX P w) (k + 1) f (PySem.W.ksFn name qual params body scope dV kV doc pm an cdv ct cc) ps sp := by
  refine ⟨len, fun A outer s H args us vs Q E hr e0 hbnd r hsp => ?_⟩
  have hl := len _ _ _ _ hsp
  have KX : K.In s.heap := e0.mod.kin.keeps fun b o e => (e0.bs b o e).1
  have lim : s.heap.NoLimit := e0.mod.nolimit.keeps fun b o e => (e0.bs b o e).1
  subst hbody
  obtain ⟨oD, hcl1, hcl2⟩ := T.cell
  have hpar : ps[0]? = some ar.arg := by rw [← S.pre, List.getElem?_take_of_lt h0]; exact hN
  have hpm : ar.arg ∈ ps := List.mem_of_getElem? hpar
  refine PySem.ks_codeAny_call_defAt hr.depth (KX _ _ lk) rfl lim (PySem.W.codeRec_of KX hcd) rfl hbnd S.nocell (fun ⟨n, v⟩ hy => S.par n (List.of_mem_zip hy).1) (fun h1 hns hk => ?_) S.co S.gen S.kind
  obtain ⟨a, ws, ta, t, ev, ea, ha, ht, hq⟩ := hb A outer s H vs Q E (hr.deeper _) hsp
  have I : Inv (cxSup P w K mg base N qual scope f cdv cc A outer s H E) [] (L2.start N vs) H { s with heap := h1, toks := s.toks + (ps.zip us).length } := inv_sup S hr.hd e0 hl r (e0.mod.kin _ _ hcl1) hcl2 hns hk
  have hq0 : (L2.start N vs)[0]? = some (some (V.ref a)) := by
    rw [ev]
    rfl
  refine PySem.ks_wpAt_execs_cons (PySem.ks_wpAt_Expr_any (PySem.ks_wpAt_mono (sup_call (X := cxSup P w K mg base N qual scope f cdv cc A outer s H E) (Q := fun H1 => t { nx := fun _ H' => Q .non H', rt := Q } (L2.start N vs) H1)
    T I hN hq0 (S.par _ hpm) S.sup S.cls rfl rfl rfl hms lk hp ea ha hq (heq _) (hst _)) (fun _ s1 ⟨H1, J1, q1⟩ => ?_) (fun _ _ z => z)) I.quiet (hsw _))
  refine PySem.wpAt_of_wpAny (wpAny_mono (ht.run [] s1 (L2.start N vs) H1 _ J1 q1) (fun fl s' hs => ?_) fun e s' hs => hs)
  have fin : ∀ {σ' : L2.St} {H' : Hp} {v : V} {u : Value}, Inv (cxSup P w K mg base N qual scope f cdv cc A outer s H E) [] σ' H' s' → RelV v u → Q v H' → CE outer P w H s Q u s' :=
    fun {σ' H' v u} J rv q => ⟨v, H', J.os, J.bare, J.base, J.hok, rv, q⟩
  cases fl with
  | ret u =>
    obtain ⟨v, σ', H', J, rv, q⟩ := hs
    exact fin J rv q
  | next =>
    obtain ⟨σ', H', J, q⟩ := hs
    exact fin (v := V.non) (u := Value.none) J rfl q
  | brk =>
    obtain ⟨_, _, _, q⟩ := hs
    exact False.elim q
  | cont =>
    obtain ⟨_, _, _, q⟩ := hs
    exact False.elim q
end
end FV

set_option Elab.async false
set_option linter.all false
set_option maxRecDepth 100000
set_option maxHeartbeats 4000000
namespace FV
open PySem PySem.Spec PyProof.Rows L2

/-! ### the fields that an own error's __init__ sets -/
def tOsts (K : PySem.W.Frag) : List (Str × Nat) → TS
  | [] => tNext
  | p :: r => tSeq (tOst K p.1 (tVar 0) (tVar p.2)) (tOsts K r)
section
variable {K : PySem.W.Frag} {σ : L2.St} {a C dx : Addr}
theorem osts_ok (h0 : σ[0]? = some (some (.ref a))) (T : OexC K C) (hd : dx ≠ a) : ∀ (l : List (Str × Nat)) (ys : List V) (dn : List (Str × V)) (H : Hp) (D : Ends), (∀ p ∈ l, PySem.W.findIn K (.ref C) p.1 = some none) →
    l.map (fun p => σ[p.2]?) = ys.map (fun y => some (some y)) → H a = some (exo a C (some dx)) → H dx = some (exd dx dn) → dn.length + l.length ≤ 900 →
    (∀ H', H' a = some (exo a C (some dx)) → H' dx = some (exd dx (((l.map (·.1)).zip ys).reverse ++ dn)) → (∀ b, b ≠ dx → H' b = H b) → D.nx σ H') → tOsts K l D σ H
  | [], ys, dn, H, D, _, hy, ha, hx, _, h => by
    have : ys = [] := by simpa using hy.symm
    subst this
    exact h H ha (by simpa using hx) fun _ _ => rfl
  | p :: l, [], dn, H, D, _, hy, _, _, _, _ => by simp at hy
  | p :: l, y :: ys, dn, H, D, hn, hy, ha, hx, hl, h => by
    simp only [List.map_cons, List.cons.injEq] at hy
    simp only [List.length_cons] at hl
    refine ⟨y, hy.1, .ref a, h0, a, C, rfl, T, hn p List.mem_cons_self, .inr ⟨dx, dn, ha, hx, by omega, ?_⟩⟩
    refine osts_ok h0 T hd l ys ((p.1, y) :: dn) _ D (fun q hq => hn q (List.mem_cons_of_mem _ hq)) hy.2 (by rw [upd_ne (Ne.symm hd)]; exact ha) upd_same (by simp only [List.length_cons]; omega) fun H' e1 e2 e3 => ?_
    refine h H' e1 ?_ fun b hb => by rw [e3 b hb, upd_ne hb]
    rw [e2]
    simp
theorem osts_ok0 (h0 : σ[0]? = some (some (.ref a))) (T : OexC K C) (p : Str × Nat) (l : List (Str × Nat)) (ys : List V) (H : Hp) (D : Ends) (hn : ∀ q ∈ p :: l, PySem.W.findIn K (.ref C) q.1 = some none)
    (hy : (p :: l).map (fun p => σ[p.2]?) = ys.map (fun y => some (some y))) (ha : H a = some (exo a C none)) (hl : l.length ≤ 800)
    (h : ∀ dx H', H dx = none → dx ≠ a → H' a = some (exo a C (some dx)) → H' dx = some (exd dx ((((p :: l).map (·.1)).zip ys).reverse)) → (∀ b, b ≠ dx → b ≠ a → H' b = H b) → D.nx σ H') : tOsts K (p :: l) D σ H := by
  cases ys with
  | nil => simp at hy
  | cons y ys =>
    simp only [List.map_cons, List.cons.injEq] at hy
    refine ⟨y, hy.1, .ref a, h0, a, C, rfl, T, hn p List.mem_cons_self, .inl ⟨ha, fun dx n ne => ?_⟩⟩
    refine osts_ok h0 T ne l ys [(p.1, y)] _ D (fun q hq => hn q (List.mem_cons_of_mem _ hq)) hy.2 upd_same (by rw [upd_ne ne, upd_same]) (by simp only [List.length_cons, List.length_nil]; omega) fun H' e1 e2 e3 => ?_
    refine h dx H' n ne e1 ?_ fun b h1 h2 => by rw [e3 b h1, upd_ne h2, upd_ne h1]
    rw [e2]
    simp
end
/-- what an own error's __init__ promises: what it was given stands as its fields, in turned order -/
def okMsg (msg : Option Nat) (ws : List V) : Prop := match msg with
  | none => True
  | some j => ∃ s, ws[j]? = some (.str s) ∧ s.length ≤ 100000
def spI (K : PySem.W.Frag) (C : Addr) (nms : List Str) (msg : Option Nat) : Sp := fun vs H Q _ => ∃ a ws, vs = .ref a :: ws ∧ ws.length = nms.length ∧ H a = some (exo a C none) ∧ okMsg msg ws ∧
  ∀ dx H', H dx = none → dx ≠ a → H' a = some (exo a C (some dx)) → H' dx = some (exd dx (nms.zip ws).reverse) → (∀ b o, b ≠ a → H b = some o → H' b = some o) → Q .non H'
/-- .. is handed in as the text of the error -/
def tMsg (text : Str) : Option Nat → TA
  | none => fun _ H Q => Q [.str text] H
  | some j => fun σ H Q => ∃ z, σ[j + 1]? = some (some (.str z)) ∧ text.length + z.length ≤ sizeLine ∧ Q [.str (text ++ z)] H
theorem pa_msg0 {X : Cx} {text : Str} {j} {p : Pos} : PA X [.Constant (.str text) j p] (tMsg text none) := pa_imp (pa_cons pe_str pa_nil) fun _ _ _ h => h
theorem pa_msg1 {X : Cx} {text x : Str} {i j} {p p1 p2 : Pos} (hN : X.N[i + 1]? = some x := by rfl) (hv : Vis X.env.scope x := by exact Or.inl rfl) (hd : (x == ("__debug__" : Str)) = false := by decide) (hcd : (x == ("__classdict__" : Str)) = false := by decide) :
    PA X [.BinOp (.Constant (.str text) j p) .Add (.Name x p1) p2] (tMsg text (some i)) :=
  pa_imp (pa_cons (pe_op op_add_str pe_str (pe_var hN hv hd hcd)) pa_nil) fun _ _ _ ⟨z, h1, h2, h3⟩ => ⟨_, h1, _, _, rfl, rfl, h2, h3⟩
section
variable {P : Program} {w : World} {K : PySem.W.Frag} {mg : Str → Option Value} {base : Heap} {N ps nms : List Str} {name qual : Str} {scope : Scope} {f C cc : Addr} {cdv : Value} {params : Arguments} {rest body : List Stmt} {dV kV doc pm ct oc : Value} {an od : Option Addr} {osl : Array (Option Value)} {k : Nat} {e : Expr} {p0 p1 p2 p3 p4 : Pos} {ar : Arg} {text : Str} {msg : Option Nat}
theorem fnok_err (lk : K.lookup f = some ⟨oc, od, .func (PySem.W.ksFn name qual params body scope dV kV doc pm an cdv ct cc), osl⟩) (hcd : PySem.W.codeIn K cdv qual = true) (S : SupScope N ps scope)
    (hbody : body = .Expr (.Call (.Attribute (.Call (.Name "super" p0) [] [] p1) "__init__" p2) [e] [] p3) p4 :: rest)
    (Tk : SupK P K C f cc cdv) (hms : mg "super" = none) (hp : (params.posonlyargs ++ params.args).head? = some ar) (hN : N[0]? = some ar.arg) (hps : ps.length = nms.length + 1) (h0 : 0 < nms.length) (h8 : nms.length ≤ 800) (hNl : N = ps)
    (hno : ∀ n ∈ nms, PySem.W.findIn K (.ref C) n = some none) (ht : text.length ≤ 1000)
    (hrest : ∀ (A : Around) (outer : List Env) (s : Shared) (H : Hp) (E : XK), PSs (cxSup P w K mg base N qual scope f cdv cc A outer s H E) rest (tOsts K (nms.zip ((List.range nms.length).map (· + 1)))))
    (hmsg : ∀ (A : Around) (outer : List Env) (s : Shared) (H : Hp) (E : XK), Room k (A.deeper (envS qual scope s.heap.objs.size f cdv cc)) → PA (cxSup P w K mg base N qual scope f cdv cc A outer s H E) [e] (tMsg text msg))
    (pl : Env → Sem Bool)
    (heq : ∀ env : Env, eval (.Call (.Attribute (.Call (.Name "super" p0) [] [] p1) "__init__" p2) [e] [] p3) env = (do
      let ov ← attributeBase (.Call (.Name "super" p0) [] [] p1) "__init__" env (eval (.Call (.Name "super" p0) [] [] p1) env)
      standAt p2.atName
      let (f, first) ← holding [ov] (getMethod ov "__init__" (pl env))
      callWith p3 f first (backTo p3 (starEach [e] env)) []) := by intro _; rfl)
    (hst : ∀ env : Env, starEach [e] env = (false, eval e env) :: starEach [] env := by intro _; rfl)
    (hsw : ∀ env : Env, swapsWith (.Call (.Attribute (.Call (.Name "super" p0) [] [] p1) "__init__" p2) [e] [] p3) none p4.line env = pure false := by intro _; rfl) :
    FnOk P w K mg base (L2.CX P w) (k + 1) f (PySem.W.ksFn name qual params body scope dV kV doc pm an cdv ct cc) ps (spI K C nms msg) := by
  refine fn_sup lk hcd S hbody Tk hms hp hN (by omega) (fun vs H Q E ⟨a, ws, ev, hl, _⟩ => by rw [ev, List.length_cons, hl, hps]) (fun A outer s H vs Q E hr ⟨a, ws, ev, hl, ea, hok, hq⟩ => ?_) pl heq hst hsw
  have hNN : N.length = nms.length + 1 := by rw [hNl, hps]
  have hst0 : L2.start N vs = some (.ref a) :: ws.map some := by
    unfold L2.start
    rw [ev]
    simp [hNN, hl]
  refine ⟨a, ws, _, _, ev, ea, hmsg A outer s H E hr, hrest A outer s H E, ?_⟩
  have fin : ∀ (us : List V), us.length ≤ 1000 → us.length ≤ 1000 ∧ H a = some (exo a C none) ∧ tOsts K (nms.zip ((List.range nms.length).map (· + 1))) { nx := fun _ H' => Q .non H', rt := Q } (L2.start N vs) H := fun us hu => by
      refine ⟨hu, ea, ?_⟩
      obtain ⟨n0, nr, hnr⟩ : ∃ n0 nr, nms = n0 :: nr := by
        cases hnm : nms with
        | nil => rw [hnm] at h0; simp at h0
        | cons x y => exact ⟨x, y, rfl⟩
      have hz : ∃ q l, nms.zip ((List.range nms.length).map (· + 1)) = q :: l := by
        rw [hnr, List.length_cons, List.range_succ_eq_map]
        exact ⟨_, _, rfl⟩
      obtain ⟨q, l, hz⟩ := hz
      have hzl : (q :: l).length = nms.length := by rw [← hz]; simp
      have hz1 : (q :: l).map (·.1) = nms := by rw [← hz]; exact List.map_fst_zip (by simp)
      have hz2 : (q :: l).map (·.2) = (List.range nms.length).map (· + 1) := by rw [← hz]; exact List.map_snd_zip (by simp)
      rw [hz]
      refine osts_ok0 (a := a) (C := C) (by rw [hst0]; rfl) Tk.ox q l ws H _ (fun p hp => hno _ (by rw [← hz1]; exact List.mem_map_of_mem hp)) ?_ ea (by simp only [List.length_cons] at hzl; omega) fun dx H' n ne e1 e2 e3 => ?_
      · have : (q :: l).map (fun p => (L2.start N vs)[p.2]?) = ((q :: l).map (·.2)).map fun i => (L2.start N vs)[i]? := by rw [List.map_map]; rfl
        rw [this, hz2, hst0, List.map_map]
        apply List.ext_getElem?
        intro i
        by_cases hi : i < nms.length
        · have : i < ws.length := by omega
          simp [hi, this]
        · have : ¬ i < ws.length := by omega
          simp [hi, this]
      · rw [hz1] at e2
        refine hq dx H' n ne e1 e2 fun b o hb ho => ?_
        have hbd : b ≠ dx := fun z => by rw [z, n] at ho; cases ho
        rw [e3 b hbd hb]
        exact ho
  cases hm : msg with
  | none => exact fin [.str text] (by show 1 ≤ 1000; omega)
  | some j =>
    rw [hm] at hok
    obtain ⟨z, hz, hzl⟩ := hok
    exact ⟨z, by rw [hst0, List.getElem?_cons_succ, List.getElem?_map, hz]; rfl, by rw [sizeLine_eq]; omega, fin _ (by show 1 ≤ 1000; omega)⟩
end

/-! ### raise C(e, ..) -/
def okMsgD (msg : Option Nat) (ds : List D) : Bool := match msg with
  | none => true
  | some j => match ds[j]? with
    | some (.str s) => decide (s.length ≤ 100000)
    | _ => false
def dRaise (c : Nat) (nms : List Nat) (msg : Option Nat) (da : DenA) : DenS := fun ρ st => (da ρ st).toS ρ fun ds st => if ds.length = nms.length ∧ ds.length ≤ 1000 ∧ okMsgD msg ds = true then .exc c (nms.zip ds).reverse ρ st else .bad
/-- the class x, c in the table, an own error whose __init__ sets the fields nms -/
def XcG (P : Program) (w : World) (T : Tb) (mg : Str → Option Value) (base : Heap) (k : Nat) (x : Str) (c : Nat) (nms : List Nat) (msg : Option Nat) : Prop :=
  ∃ C fI fd ps names, T.CT[c]? = some C ∧ mg x = some (.ref C) ∧ OexC T.K C ∧ PySem.W.findIn T.K (.ref C) "__init__" = some (some (.ref fI)) ∧ PySem.W.typeIn T.K (.ref fI) = some (.type "function") ∧
    FnOk P w T.K mg base (L2.CX P w) k fI fd ps (spI T.K C names msg) ∧ Binds T.K fd ps [] ∧ nms.map (fun i => T.FT[i]?) = names.map some
section
variable {T : Tb} {M M' : Mu} {H H' : Hp} {st : DSto}
theorem rx_app : ∀ {fs gs : List (Nat × D)} {xs ys : List (Str × V)}, RX T M H fs xs → RX T M H gs ys → RX T M H (fs ++ gs) (xs ++ ys)
  | [], gs, xs, ys, h, k => by
    simp only [RX] at h
    subst h
    exact k
  | (i, d) :: fs, gs, xs, ys, h, k => by
    simp only [RX] at h
    obtain ⟨n, v, ws, rfl, h1, h2, h3⟩ := h
    rw [List.cons_append, List.cons_append]
    simp only [RX]
    exact ⟨n, v, ws ++ ys, rfl, h1, h2, rx_app h3 k⟩
theorem rx_zip : ∀ {nms : List Nat} {names : List Str} {ds : List D} {vs : List V}, nms.map (fun i => T.FT[i]?) = names.map some → RVs T M H ds vs → RX T M H (nms.zip ds).reverse (names.zip vs).reverse
  | [], names, ds, vs, h, r => by
    have : names = [] := by simpa using h.symm
    subst this
    simp [RX]
  | i :: nms, [], ds, vs, h, r => by simp at h
  | i :: nms, n :: names, [], vs, h, r => by
    simp only [RVs] at r
    subst r
    simp [RX]
  | i :: nms, n :: names, d :: ds, vs, h, r => by
    simp only [RVs] at r
    obtain ⟨v, ws, rfl, r1, r2⟩ := r
    simp only [List.map_cons, List.cons.injEq] at h
    rw [List.zip_cons_cons, List.zip_cons_cons, List.reverse_cons, List.reverse_cons]
    refine rx_app (rx_zip h.2 r2) ?_
    simp only [RX]
    exact ⟨n, v, [], rfl, h.1, r1, rfl⟩
theorem sok_keep (s : SOk T M H st) (k : ∀ b o, H b = some o → H' b = some o) : SOk T M H' st ∧ Ex M H M H' :=
  have x : Ex M H M H' := .of ⟨[], by simp⟩ rfl (fun a o h _ => k a o h) fun a h n => absurd h n
  ⟨⟨s.len, fun i ob b e1 e2 => (s.ro i ob b e1 e2).mo x.mo fun u z => k b u z, s.inj, s.dis, fun b hb => let ⟨o, h⟩ := s.bld b hb; ⟨o, k b o h⟩⟩, x⟩
theorem okMsg_of {msg : Option Nat} {ds : List D} {vs : List V} (r : RVs T M H ds vs) (h : okMsgD msg ds = true) : okMsg msg vs := by
  cases msg with
  | none => exact True.intro
  | some j =>
    unfold okMsgD at h
    dsimp only at h
    cases hd : ds[j]? with
    | none => rw [hd] at h; cases h
    | some d =>
      rw [hd] at h
      obtain ⟨v, hv, rv⟩ := r.get hd
      cases d <;> simp at h
      simp only [RV] at rv
      subst rv
      exact ⟨_, hv, h⟩
end
section
variable {X : Cx} {T : Tb} {W : WX} {x : Str} {e : Expr} {es : List Expr} {k c : Nat} {nms : List Nat} {msg : Option Nat} {da : DenA} {p p2 pos : Pos}
theorem psx_raise (hc : X.calm = true) (F : Fits X T W) (h : XcG X.prog X.w T X.mg X.base k x c nms msg) (hr : Room (k + 1) X.A) (hg : Gl X x) (ha : PAX X T W (e :: es) da)
    (hdb : (x == ("__debug__" : Str)) = false := by decide) (he : starEach (e :: es) X.env = (false, eval e X.env) :: starEach es X.env := by rfl) (hpl : (backTo p2 (starEach es X.env)).any (·.1) = false := by rfl) :
    PSX X T W (.Raise (some (.Call (.Name x p) (e :: es) [] p2)) none pos) (dRaise c nms msg da) := by
  obtain ⟨C, fI, fd, ps, names, hC, hm, T1, iC, tI, F1, hb, hnm⟩ := h
  rw [← F.K] at T1 iC tI F1 hb
  have hl : names.length = nms.length := by have := congrArg List.length hnm; simpa using this.symm
  refine ps_imp (ps_raise hc F.tk (pmk_oex T1 iC tI F1 hr hb .nil (fun pins σ H s e s' I q => by
    obtain ⟨_, _, _, _, _, _, _, _, _, _, _, _, z⟩ := q
    exact z.elim) hg hm ha hdb he hpl)) fun D σ H ⟨M, ρ, st, s, e, h⟩ => ⟨M, ρ, st, s, e, (PostS.bind (R := RVs T) h e).mono fun vs H1 ⟨M1, ds, st1, s1, x1, r1, h1⟩ => ?_⟩
  by_cases hq : ds.length = nms.length ∧ ds.length ≤ 1000 ∧ okMsgD msg ds = true
  · rw [if_pos hq] at h1
    have hvl := r1.len
    refine ⟨by omega, fun a na => ⟨a, vs ++ [], rfl, by rw [List.append_nil]; omega, upd_same, by rw [List.append_nil]; exact okMsg_of r1 hq.2.2, fun dx H' n ne e1 e2 e3 => ⟨rfl, dx, _, e1, e2, ?_, ?_⟩⟩⟩
    · rw [upd_ne ne] at n; exact n
    · rw [upd_ne ne] at n
      have kk : ∀ b o, H1 b = some o → upd (del H' a) dx (.xd (names.zip (vs ++ [])).reverse) b = some o := fun b o ho => by
        have hbd : b ≠ dx := fun z => by rw [z, n] at ho; cases ho
        have hba : b ≠ a := fun z => by rw [z, na] at ho; cases ho
        rw [upd_ne hbd, del_ne hba]
        exact e3 b o hba (by rw [upd_ne hba]; exact ho)
      obtain ⟨s2, x2⟩ := sok_keep s1 kk
      refine h1 M1 σ _ C dx _ s2 x2 (e.ex (x1.trans x2)) hC (s1.fresh n) upd_same ?_
      have r3 := rx_zip hnm (r1.ex x2)
      simp only [List.append_nil] at r3 ⊢
      exact r3
  · rw [if_neg hq] at h1
    exact h1.elim
end
end FV

set_option Elab.async false
set_option linter.all false
set_option maxRecDepth 100000
set_option maxHeartbeats 4000000
namespace FV
open PySem PySem.Spec PyProof.Rows L2

/-! ### try with several clauses, each with a name or without one -/
structure Cl where
  cls : Value
  slot : Option Nat
  ts : Addr → Value → Option Addr → TS
def intoS : Option Nat → Addr → L2.St → L2.St
  | none, _, σ => σ
  | some i, a, σ => σ.set i (some (.ref a))
def offS : Option Nat → L2.St → L2.St
  | none, σ => σ
  | some i, σ => σ.set i none
def endsC (o : Option Nat) (D : Ends) : Ends := { nx := fun σ H => D.nx (offS o σ) H, rt := D.rt, bk := fun σ H => D.bk (offS o σ) H, ct := fun σ H => D.ct (offS o σ) H }
def wCls (K : PySem.W.Frag) (Wout : WX) (D : Ends) : List Cl → WX
  | [] => Wout
  | h :: r => fun cls d σ H => ∃ b, PySem.W.exmOne K cls h.cls = some b ∧ (b = true → ∀ a, H a = none → h.ts a cls d (endsC h.slot D) (intoS h.slot a σ) H) ∧ (b = false → wCls K Wout D r cls d σ H)
/-- the suite of a clause keeps its reading -/
def SuiteOk (X : Cx) (b : Stmt) (suite : List Stmt) (ts : Addr → Value → Option Addr → TS) : Prop :=
  ∀ (a : Addr) (oe : Obj) (cls : Value) (d : Option Addr) (pn : List (Addr × Obj)), Zc cls d oe → (∃ vs, oe.data = .fields vs) → PSs (X.suite a ((a, oe) :: pn)) (b :: suite) (ts a cls d)
inductive ClsOk (X : Cx) : List ExceptHandler → List Cl → Prop
  | nil : ClsOk X [] []
  | plain {x : Str} {h : Cl} {b : Stmt} {suite : List Stmt} {np p : Pos} {hds : List ExceptHandler} {l : List Cl} (hc : Names X x h.cls) (hn : h.slot = none) (hs : SuiteOk X b suite h.ts) (r : ClsOk X hds l) :
    ClsOk X (.ExceptHandler (some (.Name x np)) none (b :: suite) p :: hds) (h :: l)
  | named {x n : Str} {i : Nat} {h : Cl} {b : Stmt} {suite : List Stmt} {np p : Pos} {hds : List ExceptHandler} {l : List Cl} (hc : Names X x h.cls) (hn : h.slot = some i) (hi : X.N[i]? = some n) (hk : X.env.kindOf n = some .local) (hs : SuiteOk X b suite h.ts) (r : ClsOk X hds l) :
    ClsOk X (.ExceptHandler (some (.Name x np)) (some n) (b :: suite) p :: hds) (h :: l)
/-- an exception that has landed in the frame -/
structure Landed (X : Cx) (pins : List (Addr × Obj)) (B : Heap) (a : Addr) (cls : Value) (d : Option Addr) (σ : L2.St) (H : Hp) (sI s' : Shared) (h3 : Heap) : Prop where
  J : Inv X pins σ H sI
  nb : ∀ b o, sI.heap.get? b = some o → b ∉ frs X.stack → B.get? b = some o
  up : sI.heap.UpToSlots h3
  fl : HandSPX.FlyingZ B (X.env :: X.outer) a (Zc cls d) h3
  na : H a = none
  os : s'.os = sI.os
  ag : AllBare s'.gens
section
variable {X : Cx} {pins : List (Addr × Obj)} {B : Heap} {a : Addr} {cls : Value} {d : Option Addr} {σ : L2.St} {H : Hp} {sI s' : Shared} {h3 : Heap} {D : Ends} {Wout : WX}
theorem Landed.suite (L : Landed X pins B a cls d σ H sI s' h3) (hf : X.env.frame = some X.env.locals) : ∃ oe, Zc cls d oe ∧ (∃ vs, oe.data = .fields vs) ∧ h3.get? a = some oe ∧ Inv (X.suite a ((a, oe) :: (X.pn ++ pins))) [] σ H { s' with heap := h3 } := by
  obtain ⟨oe, vs, he, hz, hd⟩ := L.fl.there
  have nfr : a ∉ frs (X.env :: X.outer) := fun hm => by
    obtain ⟨_, o', e', hnf⟩ := L.fl.2.2.1.mem hm
    rw [he] at e'
    cases e'
    exact hnf _ hd
  have nL : a ≠ X.env.locals := fun z => nfr (List.mem_filterMap.mpr ⟨X.env, List.mem_cons_self, by rw [hf, z]⟩)
  have nF : a ∉ X.fs := fun hm => by
    obtain ⟨e, m, q⟩ := List.mem_filterMap.mp hm
    exact nfr (List.mem_filterMap.mpr ⟨e, List.mem_cons_of_mem _ m, q⟩)
  exact ⟨oe, hz, ⟨vs, hd⟩, he, (L.J.landed (s' := { s' with heap := h3 }) L.nb L.fl.1 L.up L.os L.ag).suite he hd L.na nL nF⟩
/-- the clauses are asked one after the other -/
theorem handle_ok (hs : X.stack = X.env :: X.outer) (hf : X.env.frame = some X.env.locals) (hN : X.N.Nodup) (tk : Takes X Wout) (ok : X.Ok) (L : Landed X pins B a cls d σ H sI s' h3) :
    ∀ {hds : List ExceptHandler} {l : List Cl}, ClsOk X hds l → wCls X.K Wout D l cls d σ H → wpAny (model X.prog X.w) X.A (handleBy (.ref a) X.env hds) (SP X pins D) X.xe { s' with heap := h3 } := by
  have ask : ∀ {x : Str} {c : Value} {np : Pos} {Q : Value → Shared → Prop} {E : Value → Shared → Prop}, Names X x c → Q c { s' with heap := h3 } → wpAny (model X.prog X.w) (X.A.mark (some (.ref a))) (eval (.Name x np) X.env) Q E { s' with heap := h3 } := fun {x c np Q E} hc q => by
    obtain ⟨oe, _, _, _, S⟩ := L.suite hf
    obtain ⟨hg, hdbg, hm | ⟨hm, hv, hnn⟩⟩ := hc
    · exact ld_glob (X := X.suite a ((a, oe) :: (X.pn ++ pins))) S hg hm q hdbg
    · exact ld_blt (X := X.suite a ((a, oe) :: (X.pn ++ pins))) S hg hm hv q hnn hdbg
  intro hds l hk
  induction hk with
  | nil =>
    intro w
    refine wpAny_handleBy_nil ?_
    obtain ⟨_, _, _, oe, vs, T, oT, ts, he, _, hd, h1, _⟩ := id L.fl
    unfold PySem.passOn
    refine wpAny_bind (wpAny_field he hd h1 ?_)
    rw [if_neg (show ¬ ((Value.ref T == Value.none) = true) from by simp)]
    have up : wpAny (model X.prog X.w) X.A (setFlight (.ref a) X.env.frame) (fun _ s4 => wpAny (model X.prog X.w) X.A (throw (.ref a) : Sem Flow) (SP X pins D) X.xe s4) X.xe { s' with heap := h3 } := by
      rw [hf]
      exact HandSPX.setFlight_upZ L.fl fun h4 hh4 up4 => wpAny_throw (tk _ _ ⟨a, B, sI, pins, σ, H, cls, d, rfl, L.J, L.nb, L.up.trans up4, .inr (.inr (by rw [hs]; exact hh4)), L.na, L.os, L.ag, w⟩)
    first
      | exact wpAny_bind (wpAny_pure (wpAny_bind up))
      | exact wpAny_bind up
  | @plain x h b suite np p hds l hc hn hsu r ih =>
    rintro ⟨k, hk, yes, no⟩
    refine wpAny_handleBy_cons (codeAny_handlers_test (ask hc ?_)) (by intro q; cases q)
    obtain ⟨oe, hz, _, he, S⟩ := L.suite hf
    have LT : PySem.W.Looks (model X.prog X.w) h3 (typeOf (.ref a)) cls := fun A Q E s k q => wpAny_typeOf_ref (k _ _ he) (by rw [hz.1]; exact q)
    refine (PySem.W.exm_one (M := model X.prog X.w) S.kIn LT hk).here ?_
    cases k with
    | false => exact ih (no rfl)
    | true =>
      refine codeAny_handlers_suite (HandSPX.lands_againZ L.fl fun h4 fl4 up4 => ?_)
      obtain ⟨oe4, hz4, hd4, _, S4⟩ := Landed.suite (h3 := h4) ⟨L.J, L.nb, L.up.trans up4, fl4, L.na, L.os, L.ag⟩ hf
      have q := yes rfl a L.na
      rw [hn] at q
      refine wpAny_mono ((hsu a oe4 cls d (X.pn ++ pins) hz4 hd4).run [] _ _ H _ S4 q) (fun f s6 hsp => ?_) (fun _ _ z => False.elim z)
      cases f with
      | ret u => obtain ⟨v, σ6, H6, S6, r6, q6⟩ := hsp; exact ⟨_, _, _, S6.unsuite ok, r6, q6⟩
      | next => obtain ⟨σ6, H6, S6, q6⟩ := hsp; exact ⟨_, _, S6.unsuite ok, q6⟩
      | brk => obtain ⟨σ6, H6, S6, q6⟩ := hsp; exact ⟨_, _, S6.unsuite ok, q6⟩
      | cont => obtain ⟨σ6, H6, S6, q6⟩ := hsp; exact ⟨_, _, S6.unsuite ok, q6⟩
  | @named x n i h b suite np p hds l hc hn hi hln hsu r ih =>
    rintro ⟨k, hk, yes, no⟩
    refine wpAny_handleBy_cons (codeAny_handlers_test (ask hc ?_)) (by intro q; cases q)
    obtain ⟨oe, hz, _, he, S⟩ := L.suite hf
    have LT : PySem.W.Looks (model X.prog X.w) h3 (typeOf (.ref a)) cls := fun A Q E s k q => wpAny_typeOf_ref (k _ _ he) (by rw [hz.1]; exact q)
    refine (PySem.W.exm_one (M := model X.prog X.w) S.kIn LT hk).here ?_
    cases k with
    | false => exact ih (no rfl)
    | true =>
      refine codeAny_handlers_suite_as (HandSPX.lands_againZ L.fl fun h4 fl4 up4 => ?_)
      obtain ⟨oe4, hz4, hd4, _, S4⟩ := Landed.suite (h3 := h4) ⟨L.J, L.nb, L.up.trans up4, fl4, L.na, L.os, L.ag⟩ hf
      have q := yes rfl a L.na
      rw [hn] at q
      refine store_ok (X := X.suite a ((a, oe4) :: (X.pn ++ pins))) (v := .ref a) S4 hN hi (.inl hln) rfl (fun s5 S5 => ?_) (.inr hln)
      refine wpAny_mono ((hsu a oe4 cls d (X.pn ++ pins) hz4 hd4).run [] s5 _ H _ S5 q) (fun f s6 hsp => ?_) (fun _ _ z => False.elim z)
      have gone : ∀ {σ6 : L2.St} {H6 : Hp} {Q : Shared → Prop}, Inv (X.suite a ((a, oe4) :: (X.pn ++ pins))) [] σ6 H6 s6 → (∀ s7, Inv X pins (σ6.set i none) H6 s7 → Q s7) →
          wpAny (model X.prog X.w) X.A (do bindName X.env n .none; unbindBehindTheSuite X.env n p) (fun _ s7 => Q s7) X.xe s6 := fun {σ6 H6 Q} S6 hq => gone_ok (S6.unsuite ok) hN hi hln hq
      cases f with
      | ret u => obtain ⟨v, σ6, H6, S6, r6, q6⟩ := hsp; exact gone S6 fun s7 J7 => ⟨_, _, _, J7, r6, q6⟩
      | next => obtain ⟨σ6, H6, S6, q6⟩ := hsp; exact gone S6 fun s7 J7 => ⟨_, _, J7, q6⟩
      | brk => obtain ⟨σ6, H6, S6, q6⟩ := hsp; exact gone S6 fun s7 J7 => ⟨_, _, J7, q6⟩
      | cont => obtain ⟨σ6, H6, S6, q6⟩ := hsp; exact gone S6 fun s7 J7 => ⟨_, _, J7, q6⟩
/-- try .. except .. -/
theorem ps_try_cls {body : List Stmt} {h₀ : ExceptHandler} {hds : List ExceptHandler} {l : List Cl} {pos : Pos} {tb : WX → TS} (hs : X.stack = X.env :: X.outer) (hf : X.env.frame = some X.env.locals) (hN : X.N.Nodup) (tk : Takes X Wout)
    (hb : ∀ (W : WX) (pn : List (Addr × Obj)) (xe : Value → Shared → Prop), Takes (X.tr pn xe) W → PassesOwn (model X.prog X.w) X.A X.env xe → PSs (X.tr pn xe) body (tb W))
    (hh : ClsOk X (h₀ :: hds) l) : PS X (.Try body (h₀ :: hds) [] [] pos) (fun D σ H => tb (wCls X.K Wout D l) D σ H) := by
  refine ⟨fun pins s σ H D I h => ?_⟩
  have ok := I.ok
  have hfr : X.A.frames = some (X.env :: X.outer) := by rw [ok.frames, hs]
  refine wpAny_Try_except (wpAny_mono ((hb (wCls X.K Wout D l) (X.pn ++ pins) _ (fun u s' xx => ?_) PassesOwn.looking).run [] s σ H D (I.toTry _) h) (fun f s1 hsp => ?_) (fun e s1 he => he))
  · obtain ⟨a, B, sI, pins', σ', H', cls, d, rfl, J', nb, up, sky, na, os, ag, w⟩ := xx
    refine Sky.land Zc.steady hfr hf (show Sky B (X.env :: X.outer) a (Zc cls d) X.env.locals s'.heap by rw [← hs]; exact sky) fun h3 fl3 up3 => ?_
    exact handle_ok hs hf hN tk ok ⟨J'.ofTry ok, nb, up.trans up3, fl3, na, os, ag⟩ hh w
  · cases f with
    | next => obtain ⟨σ', H', J', q⟩ := hsp; exact wpAny_execs_nil ⟨σ', H', J'.ofTry ok, q⟩
    | brk => obtain ⟨σ', H', J', q⟩ := hsp; exact ⟨σ', H', J'.ofTry ok, q⟩
    | cont => obtain ⟨σ', H', J', q⟩ := hsp; exact ⟨σ', H', J'.ofTry ok, q⟩
    | ret u => obtain ⟨v, σ', H', J', r, q⟩ := hsp; exact ⟨v, σ', H', J'.ofTry ok, r, q⟩
end
end FV

set_option Elab.async false
set_option linter.all false
set_option maxRecDepth 100000
set_option maxHeartbeats 4000000
namespace FV
open PySem PySem.Spec PyProof.Rows L2

/-! ### no handled error among the data -/
mutual
def nox : D → Bool
  | .tup xs => noxs xs
  | .lst xs => noxs xs
  | .dct _ kvs => noxk kvs
  | .ins _ fs => noxf fs
  | .exv _ _ => false
  | .non => true
  | .bl _ => true
  | .int _ => true
  | .str _ => true
  | .ref _ => true
  | .scr _ => true
def noxs : List D → Bool
  | [] => true
  | x :: xs => nox x && noxs xs
def noxk : List (D × D) → Bool
  | [] => true
  | (k, x) :: xs => nox k && (nox x && noxk xs)
def noxf : List (Nat × D) → Bool
  | [] => true
  | (_, x) :: xs => nox x && noxf xs
end
/-- the table while an error is handled -/
def Tb.at (T : Tb) (e : Option (Addr × Addr × Nat)) : Tb := ⟨T.P, T.w, T.K, T.CT, T.FT, T.nd, e⟩
section
variable {T : Tb} {M : Mu} {H : Hp} {e : Option (Addr × Addr × Nat)}
mutual
theorem RV.at : ∀ {d : D} {v : V}, nox d = true → RV T M H d v → RV (T.at e) M H d v
  | .non, _, _, h => by simpa [RV] using h
  | .bl _, _, _, h => by simpa [RV] using h
  | .int _, _, _, h => by simpa [RV] using h
  | .str _, _, _, h => by simpa [RV] using h
  | .tup xs, _, n, h => by
    simp only [nox] at n
    simp only [RV] at h ⊢
    obtain ⟨a, vs, e, f, h1, h2⟩ := h
    exact ⟨a, vs, e, f, h1, RVs.at n h2⟩
  | .lst xs, _, n, h => by
    simp only [nox] at n
    simp only [RV] at h ⊢
    obtain ⟨a, vs, e, f, h1, h2⟩ := h
    exact ⟨a, vs, e, f, h1, RVs.at n h2⟩
  | .dct t kvs, _, n, h => by
    simp only [nox] at n
    simp only [RV] at h ⊢
    obtain ⟨a, e, f, h⟩ := h
    rcases h with ⟨ht, ks, h1, h2⟩ | ⟨ht, ks, h1, h2⟩
    · exact ⟨a, e, f, .inl ⟨ht, ks, h1, RK.at n h2⟩⟩
    · exact ⟨a, e, f, .inr ⟨ht, ks, h1, RN.at n h2⟩⟩
  | .ins c fs, _, n, h => by
    simp only [nox] at n
    simp only [RV] at h ⊢
    obtain ⟨a, C, dx, vs, e, f, hC, hc, h1, h2⟩ := h
    exact ⟨a, C, dx, vs, e, f, hC, hc, h1, RF.at n h2⟩
  | .ref n, _, _, h => by simpa [RV] using h
  | .scr ns, _, _, h => by
    simp only [RV] at h ⊢
    exact h
  | .exv c fs, _, n, h => by simp [nox] at n
theorem RVs.at : ∀ {d : List D} {v : List V}, noxs d = true → RVs T M H d v → RVs (T.at e) M H d v
  | [], _, _, h => by simpa [RVs] using h
  | d :: ds, _, n, h => by
    simp only [noxs, Bool.and_eq_true] at n
    simp only [RVs] at h ⊢
    obtain ⟨v, ws, e, h1, h2⟩ := h
    exact ⟨v, ws, e, RV.at n.1 h1, RVs.at n.2 h2⟩
theorem RK.at : ∀ {d : List (D × D)} {v : List (Key × V)}, noxk d = true → RK T M H d v → RK (T.at e) M H d v
  | [], _, _, h => by simpa [RK] using h
  | (k, d) :: ds, _, n, h => by
    simp only [noxk, Bool.and_eq_true] at n
    simp only [RK] at h ⊢
    obtain ⟨q, v, ws, e, e2, h1, h2⟩ := h
    exact ⟨q, v, ws, e, e2, RV.at n.2.1 h1, RK.at n.2.2 h2⟩
theorem RN.at : ∀ {d : List (D × D)} {v : List (NestedKey × Addr × V)}, noxk d = true → RN T M H d v → RN (T.at e) M H d v
  | [], _, _, h => by simpa [RN] using h
  | (k, d) :: ds, _, n, h => by
    simp only [noxk, Bool.and_eq_true] at n
    simp only [RN] at h ⊢
    obtain ⟨q, b, v, ws, e, e2, e3, h0, h1, h2⟩ := h
    exact ⟨q, b, v, ws, e, e2, e3, RV.at n.1 h0, RV.at n.2.1 h1, RN.at n.2.2 h2⟩
theorem RF.at {C : Addr} : ∀ {d : List (Nat × D)} {v : List (Str × V)}, noxf d = true → RF T M H C d v → RF (T.at e) M H C d v
  | [], _, _, h => by simpa [RF] using h
  | (k, d) :: ds, _, n, h => by
    simp only [noxf, Bool.and_eq_true] at n
    simp only [RF] at h ⊢
    obtain ⟨m, v, ws, e, e2, e3, h1, h2⟩ := h
    exact ⟨m, v, ws, e, e2, e3, RV.at n.1 h1, RF.at n.2 h2⟩
theorem RX.at : ∀ {d : List (Nat × D)} {v : List (Str × V)}, noxf d = true → RX T M H d v → RX (T.at e) M H d v
  | [], _, _, h => by simpa [RX] using h
  | (k, d) :: ds, _, n, h => by
    simp only [noxf, Bool.and_eq_true] at n
    simp only [RX] at h ⊢
    obtain ⟨m, v, ws, e, e2, h1, h2⟩ := h
    exact ⟨m, v, ws, e, e2, RV.at n.1 h1, RX.at n.2 h2⟩
end
mutual
theorem RV.nox (hT : T.ex = none) : ∀ {d : D} {v : V}, RV T M H d v → FV.nox d = true
  | .non, _, _ => rfl
  | .bl _, _, _ => rfl
  | .int _, _, _ => rfl
  | .str _, _, _ => rfl
  | .tup xs, _, h => by
    simp only [RV] at h
    obtain ⟨a, vs, e, f, h1, h2⟩ := h
    exact RVs.nox hT h2
  | .lst xs, _, h => by
    simp only [RV] at h
    obtain ⟨a, vs, e, f, h1, h2⟩ := h
    exact RVs.nox hT h2
  | .dct t kvs, _, h => by
    simp only [RV] at h
    obtain ⟨a, e, f, h⟩ := h
    rcases h with ⟨ht, ks, h1, h2⟩ | ⟨ht, ks, h1, h2⟩
    · exact RK.nox hT h2
    · exact RN.nox hT h2
  | .ins c fs, _, h => by
    simp only [RV] at h
    obtain ⟨a, C, dx, vs, e, f, hC, hc, h1, h2⟩ := h
    exact RF.nox hT h2
  | .ref n, _, h => rfl
  | .scr ns, _, h => rfl
  | .exv c fs, _, h => by
    simp only [RV] at h
    obtain ⟨a, dd, xs, e, e2, _⟩ := h
    rw [hT] at e2
    cases e2
theorem RVs.nox (hT : T.ex = none) : ∀ {d : List D} {v : List V}, RVs T M H d v → noxs d = true
  | [], _, h => rfl
  | d :: ds, _, h => by
    simp only [RVs] at h
    obtain ⟨v, ws, e, h1, h2⟩ := h
    simp only [noxs, RV.nox hT h1, RVs.nox hT h2, Bool.and_self]
theorem RK.nox (hT : T.ex = none) : ∀ {d : List (D × D)} {v : List (Key × V)}, RK T M H d v → noxk d = true
  | [], _, h => rfl
  | (k, d) :: ds, _, h => by
    simp only [RK] at h
    obtain ⟨q, v, ws, e, e2, h1, h2⟩ := h
    have hk : FV.nox k = true := by rw [e2]; cases q <;> rfl
    simp only [noxk, hk, RV.nox hT h1, RK.nox hT h2, Bool.and_self]
theorem RN.nox (hT : T.ex = none) : ∀ {d : List (D × D)} {v : List (NestedKey × Addr × V)}, RN T M H d v → noxk d = true
  | [], _, h => rfl
  | (k, d) :: ds, _, h => by
    simp only [RN] at h
    obtain ⟨q, b, v, ws, e, e2, e3, h0, h1, h2⟩ := h
    simp only [noxk, RV.nox hT h0, RV.nox hT h1, RN.nox hT h2, Bool.and_self]
theorem RF.nox (hT : T.ex = none) {C : Addr} : ∀ {d : List (Nat × D)} {v : List (Str × V)}, RF T M H C d v → noxf d = true
  | [], _, h => rfl
  | (k, d) :: ds, _, h => by
    simp only [RF] at h
    obtain ⟨m, v, ws, e, e2, e3, h1, h2⟩ := h
    simp only [noxf, RV.nox hT h1, RF.nox hT h2, Bool.and_self]
theorem RX.nox (hT : T.ex = none) : ∀ {d : List (Nat × D)} {v : List (Str × V)}, RX T M H d v → noxf d = true
  | [], _, h => rfl
  | (k, d) :: ds, _, h => by
    simp only [RX] at h
    obtain ⟨m, v, ws, e, e2, h1, h2⟩ := h
    simp only [noxf, RV.nox hT h1, RX.nox hT h2, Bool.and_self]
end
def noxo : DObj → Bool
  | .lst xs => noxs xs
  | .ins _ fs => noxf fs
  | .dct _ kvs => noxk kvs
  | .dead => true
theorem RO.nox (hT : T.ex = none) {o : DObj} {a : Addr} (h : RO T M H o a) : noxo o = true := by
  cases o with
  | lst xs => obtain ⟨vs, e, r⟩ := h; exact r.nox hT
  | ins c fs => obtain ⟨C, dx, vs, e1, e2, e3, r⟩ := h; exact r.nox hT
  | dct t kvs =>
    rcases h with ⟨ht, ks, e, r⟩ | ⟨ht, ks, e, r⟩
    · exact r.nox hT
    · exact r.nox hT
  | dead => rfl
theorem RO.at {o : DObj} {a : Addr} (n : noxo o = true) (h : RO T M H o a) : RO (T.at e) M H o a := by
  cases o with
  | lst xs => obtain ⟨vs, e, r⟩ := h; exact ⟨vs, e, r.at n⟩
  | ins c fs => obtain ⟨C, dx, vs, e1, e2, e3, r⟩ := h; exact ⟨C, dx, vs, e1, e2, e3, r.at n⟩
  | dct t kvs =>
    rcases h with ⟨ht, ks, e, r⟩ | ⟨ht, ks, e, r⟩
    · exact .inl ⟨ht, ks, e, r.at n⟩
    · exact .inr ⟨ht, ks, e, r.at n⟩
  | dead => exact h
theorem SOk.atx {st : DSto} (n : ∀ o ∈ st, noxo o = true) (s : SOk T M H st) : SOk (T.at e) M H st :=
  ⟨s.len, fun i o a e1 e2 => (s.ro i o a e1 e2).at (n o (List.mem_of_getElem? e1)), s.inj, s.dis, s.bld⟩
theorem SOk.nox (hT : T.ex = none) {st : DSto} (s : SOk T M H st) : ∀ o ∈ st, noxo o = true := fun o ho => by
  obtain ⟨i, hi⟩ := List.getElem?_of_mem ho
  obtain ⟨h, -⟩ := List.getElem?_eq_some_iff.mp hi
  have hl : i < M.l.length := by rw [s.len]; exact h
  exact (s.ro i o M.l[i] hi (List.getElem?_eq_getElem hl)).nox hT
end

/-! ### try .. except .. over data -/
def subD : List (Nat × Bool) → Nat → Option Bool
  | [], _ => none
  | (k, b) :: r, c => if k = c then some b else subD r c
/-- an except clause: which of the table's classes it takes, its name's slot, its suite -/
structure Hd where
  sub : List (Nat × Bool)
  slot : Option Nat
  suite : DenS
def onE (o : Option Nat) (c : Nat) (fs : List (Nat × D)) (ρ : DEnv) : DEnv := match o with
  | none => ρ
  | some i => ρ.set i (some (.exv c fs))
def offE (o : Option Nat) (ρ : DEnv) : DEnv := match o with
  | none => ρ
  | some i => ρ.set i none
/-- what a suite leaves in a slot stood there or is free of the error -/
def okE (a b : Option D) : Bool := match b with
  | none => true
  | some d => decide (a = some d) || nox d
def keepE : DEnv → DEnv → Bool
  | a :: as, b :: bs => okE a b && keepE as bs
  | _, [] => true
  | [], _ => false
def finE (o : Option Nat) (ρ0 : DEnv) (st0 : DSto) : DStm → DStm
  | .nx ρ st => if keepE ρ0 (offE o ρ) = true ∧ st = st0 then .nx (offE o ρ) st else .bad
  | .bk ρ st => if keepE ρ0 (offE o ρ) = true ∧ st = st0 then .bk (offE o ρ) st else .bad
  | .ct ρ st => if keepE ρ0 (offE o ρ) = true ∧ st = st0 then .ct (offE o ρ) st else .bad
  | .rt d st => if nox d = true ∧ st = st0 then .rt d st else .bad
  | _ => .bad
def dHandle (c : Nat) (fs : List (Nat × D)) : List Hd → DenS
  | [] => fun ρ st => .exc c fs ρ st
  | h :: r => fun ρ st => match subD h.sub c with
    | none => .bad
    | some true => finE h.slot ρ st (h.suite (onE h.slot c fs ρ) st)
    | some false => dHandle c fs r ρ st
def dTry (b : DenS) (hs : List Hd) : DenS := fun ρ st => match b ρ st with
  | .exc c fs ρ' st' => dHandle c fs hs ρ' st'
  | r => r
/-- no error may leave a suite -/
abbrev WNo : WX := fun _ _ _ _ => False
def tsE (T : Tb) (sub : List (Nat × Bool)) (h : DenS) : Addr → Value → Option Addr → TS := fun a cls d D σ H => ∃ dd c C, d = some dd ∧ cls = .ref C ∧ T.CT[c]? = some C ∧ subD sub c = some true ∧ tS (T.at (some (a, dd, c))) WNo h D σ H
/-- a clause's suite, whatever the error -/
def SuX (X : Cx) (T : Tb) (sub : List (Nat × Bool)) (b : Stmt) (suite : List Stmt) (h : DenS) : Prop :=
  ∀ (a : Addr) (oe : Obj) (dd : Addr) (c : Nat) (C : Addr) (pn : List (Addr × Obj)), T.CT[c]? = some C → subD sub c = some true → Zc (.ref C) (some dd) oe → (∃ vs, oe.data = .fields vs) → PSsX (X.suite a ((a, oe) :: pn)) (T.at (some (a, dd, c))) WNo (b :: suite) h
/-- the clause of the class cls takes the table's classes as it is told -/
def SubG (T : Tb) (K : PySem.W.Frag) (cls : Value) (sub : List (Nat × Bool)) : Prop := ∀ c b C, subD sub c = some b → T.CT[c]? = some C → PySem.W.exmOne K (.ref C) cls = some b
inductive HX (X : Cx) (T : Tb) : List ExceptHandler → List Hd → Prop
  | nil : HX X T [] []
  | plain {x : Str} {cls : Value} {h : Hd} {b : Stmt} {suite : List Stmt} {np p : Pos} {hds : List ExceptHandler} {l : List Hd} (hc : Names X x cls) (hsub : SubG T X.K cls h.sub) (hn : h.slot = none) (hs : SuX X T h.sub b suite h.suite) (r : HX X T hds l) :
    HX X T (.ExceptHandler (some (.Name x np)) none (b :: suite) p :: hds) (h :: l)
  | named {x n : Str} {i : Nat} {cls : Value} {h : Hd} {b : Stmt} {suite : List Stmt} {np p : Pos} {hds : List ExceptHandler} {l : List Hd} (hc : Names X x cls) (hsub : SubG T X.K cls h.sub) (hn : h.slot = some i) (hi : X.N[i]? = some n) (hk : X.env.kindOf n = some .local) (hs : SuX X T h.sub b suite h.suite) (r : HX X T hds l) :
    HX X T (.ExceptHandler (some (.Name x np)) (some n) (b :: suite) p :: hds) (h :: l)
theorem keep_get : ∀ {as bs : DEnv} {i : Nat} {d : D}, keepE as bs = true → bs[i]? = some (some d) → as[i]? = some (some d) ∨ nox d = true
  | _, [], i, d, _, h => by simp at h
  | [], b :: bs, i, d, k, h => by simp [keepE] at k
  | a :: as, b :: bs, 0, d, k, h => by
    simp only [keepE, Bool.and_eq_true] at k
    rw [List.getElem?_cons_zero] at h
    cases h
    have := k.1
    simp only [okE, Bool.or_eq_true, decide_eq_true_eq] at this
    exact this.imp (fun e => by rw [List.getElem?_cons_zero, e]) id
  | a :: as, b :: bs, i + 1, d, k, h => by
    simp only [keepE, Bool.and_eq_true] at k
    rw [List.getElem?_cons_succ] at h ⊢
    exact keep_get k.2 h
section
variable {X : Cx} {T : Tb} {Wout : WX} {De : Ends} {M M' : Mu} {H H' : Hp} {ρ : DEnv} {σ : L2.St} {st : DSto}
/-- the clauses as the hand layer knows them -/
inductive HCl (X : Cx) (T : Tb) : List Hd → List Cl → Prop
  | nil : HCl X T [] []
  | cons {h : Hd} {cls : Value} {l : List Hd} {l' : List Cl} (hsub : SubG T X.K cls h.sub) (r : HCl X T l l') : HCl X T (h :: l) (⟨cls, h.slot, tsE T h.sub h.suite⟩ :: l')
theorem HX.cls {hds : List ExceptHandler} {l : List Hd} (h : HX X T hds l) : ∃ l', ClsOk X hds l' ∧ HCl X T l l' := by
  have su : ∀ {b : Stmt} {suite : List Stmt} {sub : List (Nat × Bool)} {h : DenS}, SuX X T sub b suite h → SuiteOk X b suite (tsE T sub h) := fun {b suite sub h} hs a oe cls d pn hz hd =>
    ⟨fun pins s σ H D I ⟨dd, c, C, ed, ec, hC, hsu, q⟩ => by
      subst ed ec
      exact (hs a oe dd c C pn hC hsu hz hd).run pins s σ H D I q⟩
  induction h with
  | nil => exact ⟨[], .nil, .nil⟩
  | @plain x cls h b suite np p hds l hc hsub hn hs r ih =>
    obtain ⟨l', h1, h2⟩ := ih
    exact ⟨_, .plain (h := ⟨cls, h.slot, tsE T h.sub h.suite⟩) hc hn (su hs) h1, .cons hsub h2⟩
  | @named x n i cls h b suite np p hds l hc hsub hn hi hk hs r ih =>
    obtain ⟨l', h1, h2⟩ := ih
    exact ⟨_, .named (h := ⟨cls, h.slot, tsE T h.sub h.suite⟩) hc hn hi hk (su hs) h1, .cons hsub h2⟩
theorem off_ok {T' : Tb} {o : Option Nat} {ρ2 : DEnv} {σ2 : L2.St} (e : EOk T' M H ρ2 σ2) : EOk T' M H (offE o ρ2) (offS o σ2) := by
  cases o with
  | none => exact e
  | some i =>
    refine ⟨by unfold offE offS; rw [List.length_set, List.length_set]; exact e.len, fun j d hj => ?_⟩
    unfold offE at hj
    unfold offS
    dsimp only at hj ⊢
    by_cases hij : i = j
    · subst hij
      by_cases hl : i < ρ2.length
      · rw [List.getElem?_set_self hl] at hj; cases hj
      · rw [List.getElem?_eq_none (by rw [List.length_set]; omega)] at hj; cases hj
    · rw [List.getElem?_set_ne hij] at hj ⊢
      exact e.val j d hj
theorem on_ok {T' : Tb} {o : Option Nat} {c : Nat} {fs : List (Nat × D)} {a : Addr} (e : EOk T' M H ρ σ) (r : RV T' M H (.exv c fs) (.ref a)) : EOk T' M H (onE o c fs ρ) (intoS o a σ) := by
  cases o with
  | none => exact e
  | some i =>
    refine ⟨by unfold onE intoS; rw [List.length_set, List.length_set]; exact e.len, fun j d hj => ?_⟩
    unfold onE at hj
    unfold intoS
    dsimp only at hj ⊢
    by_cases hij : i = j
    · subst hij
      by_cases hl : i < ρ.length
      · rw [List.getElem?_set_self hl] at hj
        cases hj
        exact ⟨_, List.getElem?_set_self (by rw [← e.len]; exact hl), r⟩
      · rw [List.getElem?_eq_none (by rw [List.length_set]; omega)] at hj; cases hj
    · rw [List.getElem?_set_ne hij] at hj ⊢
      exact e.val j d hj
theorem fin_ok {x : Option (Addr × Addr × Nat)} (hT : T.ex = none) (s : SOk T M H st) (e : EOk T M H ρ σ) (o : Option Nat) {r : DStm} (h : PostS T Wout De M H (finE o ρ st r)) : PostS (T.at x) WNo (endsC o De) M H r := by
  have back : ∀ {M' : Mu} {H' : Hp}, SOk (T.at x) M' H' st → SOk T M' H' st := fun {M' H'} s' => SOk.atx (T := T.at x) (e := T.ex) (s.nox hT) s'
  have env : ∀ {M' : Mu} {H' : Hp} {ρ2 : DEnv} {σ2 : L2.St}, keepE ρ (offE o ρ2) = true → EOk (T.at x) M' H' ρ2 σ2 → EOk T M' H' (offE o ρ2) (offS o σ2) := fun {M' H' ρ2 σ2} k e2 => by
    have e3 := off_ok (o := o) e2
    refine ⟨e3.len, fun i d hi => ?_⟩
    obtain ⟨v, hv, rv⟩ := e3.val i d hi
    have n : nox d = true := by
      rcases keep_get k hi with q | q
      · obtain ⟨_, _, r1⟩ := e.val i d q
        exact r1.nox hT
      · exact q
    exact ⟨v, hv, RV.at (T := T.at x) (e := T.ex) n rv⟩
  cases r with
  | nx ρ2 st2 =>
    unfold finE at h
    dsimp only at h
    split at h
    · rename_i q
      obtain ⟨q1, rfl⟩ := q
      exact fun M' σ' H' s' y e' => h M' _ H' (back s') y (env q1 e')
    · exact h.elim
  | bk ρ2 st2 =>
    unfold finE at h
    dsimp only at h
    split at h
    · rename_i q
      obtain ⟨q1, rfl⟩ := q
      exact fun M' σ' H' s' y e' => h M' _ H' (back s') y (env q1 e')
    · exact h.elim
  | ct ρ2 st2 =>
    unfold finE at h
    dsimp only at h
    split at h
    · rename_i q
      obtain ⟨q1, rfl⟩ := q
      exact fun M' σ' H' s' y e' => h M' _ H' (back s') y (env q1 e')
    · exact h.elim
  | rt d st2 =>
    unfold finE at h
    dsimp only at h
    split at h
    · rename_i q
      obtain ⟨q1, rfl⟩ := q
      exact fun M' v H' s' y rv => h M' v H' (back s') y (RV.at (T := T.at x) (e := T.ex) q1 rv)
    · exact h.elim
  | exc c fs ρ2 st2 => exact h.elim
  | bad => exact h.elim
theorem handle_post (hT : T.ex = none) {c : Nat} {fs : List (Nat × D)} {C dd : Addr} {xs : List (Str × V)} (s : SOk T M H st) (e : EOk T M H ρ σ) (hC : T.CT[c]? = some C) (hf : Fr M dd) (hd : H dd = some (.xd xs)) (rx : RX T M H fs xs) :
    ∀ {l : List Hd} {l' : List Cl}, HCl X T l l' → PostS T Wout De M H (dHandle c fs l ρ st) → wCls X.K Wout De l' (.ref C) (some dd) σ H := by
  intro l l' hl
  induction hl with
  | nil => exact fun h => h M σ H C dd xs s .refl e hC hf hd rx
  | @cons h cls l l' hsub r ih =>
    intro hp
    unfold dHandle at hp
    cases q : subD h.sub c with
    | none => rw [q] at hp; exact hp.elim
    | some k =>
      rw [q] at hp
      refine ⟨k, hsub c k C q hC, fun hk a na => ?_, fun hk => ?_⟩
      · subst hk
        have hexv : RV (T.at (some (a, dd, c))) M H (.exv c fs) (.ref a) := by
          simp only [RV]
          exact ⟨a, dd, xs, rfl, rfl, hf, hd, rx.at (rx.nox hT)⟩
        refine ⟨dd, c, C, rfl, rfl, hC, q, M, onE h.slot c fs ρ, st, SOk.atx (s.nox hT) s, on_ok ⟨e.len, fun i d hi => ?_⟩ hexv, fin_ok hT s e h.slot hp⟩
        obtain ⟨v, hv, rv⟩ := e.val i d hi
        exact ⟨v, hv, rv.at (rv.nox hT)⟩
      · subst hk
        exact ih hp
theorem psx_try {body : List Stmt} {h₀ : ExceptHandler} {hds : List ExceptHandler} {l : List Hd} {pos : Pos} {b : DenS} (hT : T.ex = none) (F : Fits X T Wout) (hs : X.stack = X.env :: X.outer) (hf : X.env.frame = some X.env.locals) (hN : X.N.Nodup)
    (hb : ∀ (W : WX) (pn : List (Addr × Obj)) (xe : Value → Shared → Prop), Fits (X.tr pn xe) T W → PassesOwn (model X.prog X.w) X.A X.env xe → PSsX (X.tr pn xe) T W body b)
    (hh : HX X T (h₀ :: hds) l) : PSX X T Wout (.Try body (h₀ :: hds) [] [] pos) (dTry b l) := by
  obtain ⟨l', h1, h2⟩ := hh.cls
  refine ps_imp (ps_try_cls (tb := fun W => tS T W b) hs hf hN F.tk (fun W pn xe tk hp => hb W pn xe ⟨F.K, tk⟩ hp) h1) fun D σ H ⟨M, ρ, st, s, e, h⟩ => ⟨M, ρ, st, s, e, ?_⟩
  unfold dTry at h
  cases q : b ρ st with
  | exc c fs ρ2 st2 =>
    rw [q] at h
    exact fun M' σ' H' C dd xs s' y e' hC hf' hd rx => handle_post hT s' e' hC hf' hd rx h2 (PostS.ex h y)
  | nx ρ2 st2 => rw [q] at h; exact h
  | rt d st2 => rw [q] at h; exact h
  | bk ρ2 st2 => rw [q] at h; exact h
  | ct ρ2 st2 => rw [q] at h; exact h
  | bad => rw [q] at h; exact h
end

/-! ### e.f, isinstance(e, C) of the handled error e -/
def dExf (k : Nat) (d : Den) : Den := fun ρ st => (d ρ st).bind fun x st => match x with
  | .exv _ fs => match getN k fs with
    | some v => .ok v st
    | none => .bad
  | _ => .bad
/-- what the classes that the clause takes must say -/
def XfG (T : Tb) (sub : List (Nat × Bool)) (n : Str) : Prop := ∀ c C, subD sub c = some true → T.CT[c]? = some C → XfC T.K C ∧ PySem.W.findIn T.K (.ref C) n = some none
section
variable {X : Cx} {T : Tb} {W : WX} {pos : Pos} {a dd C : Addr} {c : Nat} {oe : Obj} {pn : List (Addr × Obj)} {sub : List (Nat × Bool)}
theorem rx_get {M : Mu} {H : Hp} {n : Str} {k : Nat} (hk : T.FT[k]? = some n) : ∀ {fs : List (Nat × D)} {xs : List (Str × V)} {v : D}, RX T M H fs xs → getN k fs = some v → ∃ y, xs.lookup n = some y ∧ RV T M H v y
  | [], xs, v, h, q => by simp [getN] at q
  | (i, d) :: fs, xs, v, h, q => by
    simp only [RX] at h
    obtain ⟨m, y, ws, rfl, h1, h2, h3⟩ := h
    unfold getN at q
    by_cases hi : i = k
    · subst hi
      rw [if_pos rfl] at q
      cases q
      rw [hk] at h1
      cases h1
      exact ⟨y, by simp [List.lookup], h2⟩
    · rw [if_neg hi] at q
      obtain ⟨y', e1, e2⟩ := rx_get hk h3 q
      refine ⟨y', ?_, e2⟩
      have hne : n ≠ m := fun z => hi (by
        have h1' := List.getElem?_eq_some_iff.mp h1
        have h2' := List.getElem?_eq_some_iff.mp hk
        exact (List.getElem_inj T.nd).mp (h1'.2.trans (z.symm.trans h2'.2.symm)))
      have : (n == m) = false := by simpa using hne
      simp [List.lookup, this, e1]
theorem px_xf {e : Expr} {d : Den} {n : Str} {k : Nat} (hK : X.K = T.K) (hk : T.FT[k]? = some n) (hC : T.CT[c]? = some C) (hs : subD sub c = some true) (G : XfG T sub n) (hz : Zc (.ref C) (some dd) oe) (hf : ∃ vs, oe.data = .fields vs)
    (he : PX (X.suite a ((a, oe) :: pn)) (T.at (some (a, dd, c))) W e d) (hb : attributeBase e n X.env (eval e X.env) = eval e X.env := by rfl) :
    PX (X.suite a ((a, oe) :: pn)) (T.at (some (a, dd, c))) W (.Attribute e n pos) (dExf k d) := by
  obtain ⟨G1, G2⟩ := G c C hs hC
  rw [← hK] at G1 G2
  refine pe_imp (pe_xf G1 G2 hz hf he hb) fun σ H Q ⟨M, ρ, st, s, eo, h⟩ => ⟨M, ρ, st, s, eo, (Post.bind (R := RV (T.at (some (a, dd, c)))) h).mono fun v H1 ⟨M1, y, st1, s1, x1, r1, h1⟩ => ?_⟩
  cases y with
  | exv c' fs =>
    dsimp only at h1
    simp only [RV] at r1
    obtain ⟨a', dd', xs, rfl, e2, f2, hd, rx⟩ := r1
    have e3 : some (a, dd, c) = some (a', dd', c') := e2
    cases e3
    cases q : getN k fs with
    | none => rw [q] at h1; exact h1.elim
    | some z =>
      rw [q] at h1
      obtain ⟨y, hy, ry⟩ := rx_get (T := T.at (some (a, dd, c))) hk rx q
      exact ⟨rfl, rfl, dd, xs, y, rfl, hd, hy, h1 M1 y H1 s1 .refl ry⟩
  | _ => exact h1.elim
def dIsE (l : List (Nat × Bool)) (d : Den) : Den := fun ρ st => (d ρ st).bind fun x st => match x with
  | .exv c _ => match subD l c with
    | some b => .ok (.bl b) st
    | none => .bad
  | _ => .bad
/-- what isinstance asks of an error's class -/
structure IsK (K : PySem.W.Frag) (C : Addr) : Prop where
  xf : XfC K C
  ha : PySem.W.findIn K (.ref C) "__class__" = some (some (.builtin "object.__class__"))
  hn : PySem.W.specialIn K (.builtin "object.__class__") "__get__" = some (some (.builtin "getset_descriptor.__get__"))
  ht : PySem.W.takesIn K (.builtin "object.__class__") = some true
  hm : PySem.W.mroIn K C (.type "object") = some true
def IsEG (T : Tb) (sub : List (Nat × Bool)) (cv : Value) (l : List (Nat × Bool)) : Prop := ∀ c C, subD sub c = some true → T.CT[c]? = some C → IsK T.K C ∧ ∀ b, subD l c = some b → PySem.W.kitOne T.K (.ref C) cv = some b
/-- isinstance(e, c) -/
def rIsX (K : PySem.W.Frag) (D a dd : Addr) : List V → Hp → VK → Prop := fun xs H Q => ∃ (c : V) (cv : Value) (b : Bool), xs = [.ref a, c] ∧ (∀ u, RelV c u → u = cv) ∧ PySem.W.kitOne K (.ref D) cv = some b ∧ (∃ fs, H dd = some (.xd fs)) ∧ Q (.bl b) H
theorem call_isX {D : Addr} (K : IsK X.K D) (hz : Zc (.ref D) (some dd) oe) (hf : ∃ vs, oe.data = .fields vs) : CallR (X.suite a ((a, oe) :: pn)) (.builtin "isinstance") (rIsX X.K D a dd) := by
  intro pins s σ H xs us Q I r h
  obtain ⟨cx, cv, b, rfl, hcv, e, ⟨fs, hdd⟩, q⟩ := h
  cases r with
  | cons rx rr =>
    cases rr with
    | cons rt rr =>
      cases rr
      cases rx
      have ec := hcv _ rt
      subst ec
      have hget := (I.pin (a, oe) (List.mem_append.mpr (.inl List.mem_cons_self))).1
      have hx : ObjOk X.prog X.w H s.heap dd (.xd fs) := I.hok dd _ hdd
      obtain ⟨mA, hns, _⟩ := hx
      obtain ⟨od, ho, _⟩ := lookIn_ns hns
      obtain ⟨vs, hv⟩ := hf
      have J : PySem.W.InstAt s.heap a oe D (some od) := ⟨hget, hz.1, by unfold PySem.W.notCls; rw [hv] <;> rfl, by rw [hz.2]; exact ho⟩
      obtain ⟨cd, hc, _⟩ := PySem.W.any_some K.xf.hdC
      exact PySem.W.kia_one (PySem.W.kitx_exc (by rw [hc]; rfl) K.xf.ga K.xf.gg K.xf.exC K.ha K.hn K.ht K.hm) I.kIn J e (fun z => nomatch z) fun tk => ⟨.bl b, H, I.kept (t' := tk) fun _ _ z => z, rfl, q⟩
theorem px_isE {e : Expr} {d : Den} {x : Str} {cv : Value} {vv : V} {l : List (Nat × Bool)} {p p2 : Pos} (hK : X.K = T.K) (hC : T.CT[c]? = some C) (hs : subD sub c = some true) (G : IsEG T sub cv l) (hz : Zc (.ref C) (some dd) oe) (hf : ∃ vs, oe.data = .fields vs)
    (hm : X.mg "isinstance" = none) (hv : ∀ u, RelV vv u → u = cv) (hx : PE (X.suite a ((a, oe) :: pn)) (.Name x p2) (tC vv)) (he : PX (X.suite a ((a, oe) :: pn)) (T.at (some (a, dd, c))) W e d)
    (hg : Gl (X.suite a ((a, oe) :: pn)) "isinstance" := by rfl) (hs1 : starEach [e, .Name x p2] X.env = (false, eval e X.env) :: starEach [.Name x p2] X.env := by rfl) (hs2 : starEach [.Name x p2] X.env = (false, eval (.Name x p2) X.env) :: starEach [] X.env := by rfl)
    (hpl : (backTo pos (starEach [.Name x p2] X.env)).any (·.1) = false := by rfl) : PX (X.suite a ((a, oe) :: pn)) (T.at (some (a, dd, c))) W (.Call (.Name "isinstance" p) [e, .Name x p2] [] pos) (dIsE l d) := by
  obtain ⟨G1, G2⟩ := G c C hs hC
  rw [← hK] at G1 G2
  refine pe_imp (pe_callB (call_isX G1 hz hf) hg hm (by decide +kernel) (pa_cons he (pa_cons hx pa_nil hs2) hs1) (by decide) (by decide) hs1 hpl) fun σ H Q ⟨M, ρ, st, s, eo, h⟩ =>
    ⟨M, ρ, st, s, eo, (Post.bind (R := RV (T.at (some (a, dd, c)))) h).mono fun v H1 ⟨M1, y, st1, s1, x1, r1, h1⟩ => ?_⟩
  cases y with
  | exv c' fs =>
    dsimp only at h1
    simp only [RV] at r1
    obtain ⟨a', dd', xs, rfl, e2, f2, hd, rx⟩ := r1
    have e3 : some (a, dd, c) = some (a', dd', c') := e2
    cases e3
    cases q : subD l c with
    | none => rw [q] at h1; exact h1.elim
    | some b =>
      rw [q] at h1
      exact ⟨vv, cv, b, rfl, hv, G2 b q, ⟨xs, hd⟩, h1 M1 _ H1 s1 .refl (by simp [RV])⟩
  | _ => exact h1.elim
end
end FV

set_option Elab.async false
set_option linter.all false
set_option maxRecDepth 100000
set_option maxHeartbeats 4000000
namespace FV
open PySem PySem.Spec PyProof.Rows L2

/-! ### dicts told by value are walked: they are locked for good -/
section
variable {T : Tb} {M M0 : Mu} {H H0 : Hp} {st : DSto}
theorem sok_lock {d : Addr} {kvs : List (Key × V)} {ob : Obj} (s : SOk T M H st) (h : H d = some (.dK kvs)) (f : Fr M d) : SOk T M (upd H d (.frz ob (.dK kvs))) st :=
  ⟨s.len, fun i o b e1 e2 => (s.ro i o b e1 e2).mo (ex_lock h f).mo fun u z => by
    have hb : b ≠ d := fun q => f.1 (q ▸ List.mem_of_getElem? e2)
    rw [upd_ne hb]; exact z, s.inj, s.dis, fun b hb => upd_some (s.bld b hb)⟩
theorem rk_at : ∀ {kvs : List (D × D)} {ks : List (Key × V)} {i : Nat} {p : D × D}, RK T M H kvs ks → kvs[i]? = some p → ∃ q v, ks[i]? = some (q, v) ∧ p.1 = keyD q ∧ RV T M H p.2 v
  | [], _, i, p, _, h => by simp at h
  | (k, d) :: r, ks, 0, p, rk, h => by
    simp only [RK] at rk
    obtain ⟨q, v, ws, rfl, e, r1, _⟩ := rk
    rw [List.getElem?_cons_zero] at h
    cases h
    exact ⟨q, v, rfl, e, r1⟩
  | (k, d) :: r, ks, i + 1, p, rk, h => by
    simp only [RK] at rk
    obtain ⟨q, v, ws, rfl, e, _, r2⟩ := rk
    rw [List.getElem?_cons_succ] at h ⊢
    exact rk_at r2 h
theorem rv_key (q : Key) : RV T M H (keyD q) (kV q) := by
  cases q <;> simp [keyD, kV, RV]
/-- the pairs of a locked dict -/
theorem iterOk_items {a : Addr} {ob : Obj} {kvs : List (D × D)} {ks : List (Key × V)} (f : Fr M0 a) (h : H0 a = some (.frz ob (.dK ks))) (r : RK T M0 H0 kvs ks) : IterOk T M0 H0 (kvs.map fun p => D.tup [p.1, p.2], []) (Iti a ob ks) := by
  intro i M st H x s k
  have h1 : H a = some (.frz ob (.dK ks)) := (x.by_ _ _ h f).1
  have r1 := r.mo x
  have hl := r.len
  refine ⟨fun d e => ?_, fun hi => ⟨h1, by rw [hl]; simpa using hi⟩⟩
  rw [List.getElem?_map] at e
  obtain ⟨p, hp, rfl⟩ := Option.map_eq_some_iff.mp e
  obtain ⟨q, v, e1, ek, rv⟩ := rk_at r1 hp
  refine ⟨⟨h1, (List.getElem?_eq_some_iff.mp e1).1⟩, fun y H' hy => ?_⟩
  obtain ⟨t, q', v', e2, rfl, ht, rfl⟩ := hy
  rw [e1] at e2
  cases e2
  refine upd_tup_ok s ?_ ht
  simp only [RVs]
  exact ⟨_, _, rfl, by rw [ek]; exact rv_key q, _, _, rfl, rv, rfl⟩
theorem iterOk_keys {a : Addr} {ob : Obj} {kvs : List (D × D)} {ks : List (Key × V)} (f : Fr M0 a) (h : H0 a = some (.frz ob (.dK ks))) (r : RK T M0 H0 kvs ks) : IterOk T M0 H0 (kvs.map (·.1), []) (Itk a ob ks) := by
  intro i M st H x s k
  have h1 : H a = some (.frz ob (.dK ks)) := (x.by_ _ _ h f).1
  have r1 := r.mo x
  have hl := r.len
  refine ⟨fun d e => ?_, fun hi => ⟨h1, by rw [hl]; simpa using hi⟩⟩
  rw [List.getElem?_map] at e
  obtain ⟨p, hp, rfl⟩ := Option.map_eq_some_iff.mp e
  obtain ⟨q, v, e1, ek, rv⟩ := rk_at r1 hp
  refine ⟨⟨h1, (List.getElem?_eq_some_iff.mp e1).1⟩, fun y H' hy => ?_⟩
  obtain ⟨rfl, q', v', e2, rfl⟩ := hy
  rw [e1] at e2
  cases e2
  exact ⟨s, .refl, by rw [ek]; exact rv_key q⟩
end
def tLkv (td : TE) : TE := fun σ H Q => td σ H fun x H1 => ∃ d kvs, x = .ref d ∧ ((∃ o, H1 d = some (.frz o (.dK kvs)) ∧ Q x H1) ∨ (H1 d = some (.dK kvs) ∧ ∀ o, Q x (upd H1 d (.frz o (.dK kvs)))))
theorem pe_lkv {X : Cx} {e : Expr} {td : TE} (he : PE X e td) : PE X e (tLkv td) := by
  refine ⟨fun pins s σ H Q I h => thn (he.run pins s σ H _ I h) fun u s1 ⟨x, H1, I1, rx, d, kvs, ex, q⟩ => ?_⟩
  rcases q with ⟨o, hd, q⟩ | ⟨hd, q⟩
  · exact ⟨x, H1, I1, rx, q⟩
  · obtain ⟨od, I2⟩ := I1.lock hd True.intro
    exact ⟨x, _, I2, rx, q od⟩
/-- the pairs, the keys of a dict told by value -/
def dIItems (d : Den) : DenI := fun ρ st => (d ρ st).bind fun x st => match x with
  | .dct false kvs => .ok (kvs.map fun p => D.tup [p.1, p.2], []) st
  | _ => .bad
def dIKeys (d : Den) : DenI := fun ρ st => (d ρ st).bind fun x st => match x with
  | .dct false kvs => .ok (kvs.map (·.1), []) st
  | _ => .bad
section
variable {X : Cx} {T : Tb} {W : WX} {tg e : Expr} {d : Den}
theorem pix_items {elts : List Expr} {kk : Nat} {tpos apos cpos : Pos} (h : PX X T W e d) (hbase : attributeBase e "items" X.env (eval e X.env) = eval e X.env := by rfl) (hline : (apos.endLine == cpos.line) = true := by rfl) :
    PIX X T W (.Tuple elts kk tpos) (.Call (.Attribute e "items" apos) [] [] cpos) (dIItems d) :=
  pi_imp (pi_items (pe_lkv h) hbase hline) fun σ H R ⟨M, ρ, st, s, e, h⟩ => ⟨M, ρ, st, s, e, (Post.bind (R := RV T) h).mono fun v H1 ⟨M1, x, st1, s1, x1, r1, h1⟩ => by
    cases x with
    | dct t kvs =>
      cases t with
      | true => exact h1.elim
      | false =>
        dsimp only at h1
        simp only [RV] at r1
        obtain ⟨a, rfl, f, ⟨_, ks, hrd, rk⟩ | ⟨z, _⟩⟩ := r1
        · rcases hrd with hd | ⟨ob, hd⟩
          · exact ⟨a, ks, rfl, .inr ⟨hd, fun o => ⟨a, o, ks, rfl, upd_same, h1 M1 _ _ (sok_lock s1 hd f) (ex_lock hd f) (iterOk_items f upd_same (rk.mo (ex_lock hd f).mo))⟩⟩⟩
          · exact ⟨a, ks, rfl, .inl ⟨ob, hd, ⟨a, ob, ks, rfl, hd, h1 M1 _ H1 s1 .refl (iterOk_items f hd rk)⟩⟩⟩
        · cases z
    | _ => exact h1.elim⟩
theorem pix_keys (h : PX X T W e d) : PIX X T W tg e (dIKeys d) :=
  pi_imp (pi_keys (pe_lkv h)) fun σ H R ⟨M, ρ, st, s, e, h⟩ => ⟨M, ρ, st, s, e, (Post.bind (R := RV T) h).mono fun v H1 ⟨M1, x, st1, s1, x1, r1, h1⟩ => by
    cases x with
    | dct t kvs =>
      cases t with
      | true => exact h1.elim
      | false =>
        dsimp only at h1
        simp only [RV] at r1
        obtain ⟨a, rfl, f, ⟨_, ks, hrd, rk⟩ | ⟨z, _⟩⟩ := r1
        · rcases hrd with hd | ⟨ob, hd⟩
          · exact ⟨a, ks, rfl, .inr ⟨hd, fun o => ⟨a, o, rfl, .inl ⟨ks, upd_same, h1 M1 _ _ (sok_lock s1 hd f) (ex_lock hd f) (iterOk_keys f upd_same (rk.mo (ex_lock hd f).mo))⟩⟩⟩⟩
          · exact ⟨a, ks, rfl, .inl ⟨ob, hd, ⟨a, ob, rfl, .inl ⟨ks, hd, h1 M1 _ H1 s1 .refl (iterOk_keys f hd rk)⟩⟩⟩⟩
        · cases z
    | _ => exact h1.elim⟩
/-- list(x), a dict's keys or any sequence -/
def listDO : OpL := fun ds st => match ds with
  | [x] => match dctD x st with
    | some (false, kvs) => if kvs.length ≤ sizeLine then some (.lst (kvs.map (·.1)), st) else none
    | some _ => none
    | none => listO ds st
  | _ => none
theorem rk_keysV {M : Mu} {H : Hp} : ∀ {kvs : List (D × D)} {ks : List (Key × V)}, RK T M H kvs ks → RVs T M H (kvs.map (·.1)) (ks.map fun kv => kV kv.1)
  | [], ks, h => by
    simp only [RK] at h
    subst h
    simp [RVs]
  | (k, d) :: r, ks, h => by
    simp only [RK] at h
    obtain ⟨q, v, ws, rfl, rfl, _, h2⟩ := h
    rw [List.map_cons, List.map_cons]
    simp only [RVs]
    exact ⟨_, _, rfl, rv_key q, rk_keysV h2⟩
theorem cx_listD (hK : X.K = T.K) (hc : X.calm = true) : CallX X T (.type "list") listDO := fun pins s σ H xs us Q I r ⟨M, ds, st, so, rv, h⟩ => by
  unfold listDO at h
  split at h
  · rename_i x
    cases q : dctD x st with
    | none => simp only [q] at h; exact cx_list hK pins s σ H xs us Q I r ⟨M, _, st, so, rv, h⟩
    | some p =>
      obtain ⟨t, kvs⟩ := p
      simp only [q] at h
      cases t with
      | true => exact h.elim
      | false =>
        dsimp only at h
        obtain ⟨y, rfl, r1⟩ := rvs1 rv
        obtain ⟨a, rfl, ⟨_, ks, e, rk⟩ | ⟨z, _⟩⟩ := dctD_of so r1 q
        · by_cases hl : kvs.length ≤ sizeLine
          · rw [if_pos hl] at h
            exact call_listD hc pins s σ H _ us Q I r ⟨a, ks, rfl, e, fun p hp => lst_fin so hp (rk_keysV rk) h⟩
          · rw [if_neg hl] at h; exact h.elim
        · cases z
  · exact h.elim
/-- {} -/
def dDctV : Den := fun _ st => .ok (.dct false []) st
def dDct (t : Bool) : Den := fun _ st => .ok (.ref st.length) (st ++ [.dct t []])
theorem px_dctV {pos : Pos} : PX X T W (.Dict [] [] pos) dDctV :=
  pe_imp pe_dnewK fun σ H Q ⟨M, ρ, st, s, e, h⟩ p hp => h M _ _ (sok_new s hp) (ex_new hp) (by
    simp only [RV]
    exact ⟨p, rfl, s.fresh hp, .inl ⟨True.intro, [], .inl upd_same, rfl⟩⟩)
theorem px_dctK {pos : Pos} : PX X T W (.Dict [] [] pos) (dDct false) :=
  pe_imp pe_dnewK fun σ H Q ⟨M, ρ, st, s, e, h⟩ p hp => by
    obtain ⟨a1, a2, a3⟩ := new_ok (d := .dct false []) (o := .dK []) s hp (.inl ⟨rfl, [], upd_same, by simp [RK]⟩)
    exact h _ _ _ a1 a2 a3
end

theorem nd_empty {P : Program} {w : World} {H : Hp} (h : Heap) (hb : sysModules < h.objs.size) : ObjOk P w H (h.push { cls := .type "dict", data := .dict #[] }) h.objs.size (.ext (NdO P w h.objs.size [])) :=
  nd_new (xs := []) (beq_eq_false_iff_ne.mpr (Ne.symm (Nat.ne_of_lt hb))) (Nat.zero_le _) .nil ⟨_, #[], 0, Heap.get?_push_size _ rfl, ⟨rfl, rfl, rfl⟩, rfl, rfl, (fun x hx => by cases hx), List.nodup_nil⟩
def tDNewN (P : Program) (w : World) : TE := fun _ H Q => ∀ p, H p = none → Q (.ref p) (upd H p (.ext (NdO P w p [])))
theorem pe_dnewN {X : Cx} {pos : Pos} : PE X (.Dict [] [] pos) (tDNewN X.prog X.w) := ⟨fun pins s σ H Q I h =>
  wpAny_Dict_empty ⟨.ref s.heap.objs.size, _, I.laid (a := s.heap.objs.size) (t' := s.toks) (fun _ _ q => Heap.get?_push_of_some _ q) (Nat.le_refl _) (nd_empty s.heap I.big), rfl, h _ (I.hok.fresh (Nat.le_refl _))⟩⟩
section
variable {X : Cx} {T : Tb} {W : WX} {e f o : Expr} {d d2 d3 : Den}
theorem px_dctN {pos : Pos} (h2 : Fit2 X T) : PX X T W (.Dict [] [] pos) (dDct true) :=
  pe_imp pe_dnewN fun σ H Q ⟨M, ρ, st, s, e, h⟩ p hp => by
    rw [h2.P, h2.w]
    obtain ⟨a1, a2, a3⟩ := new_ok (d := .dct true []) (o := .ext (NdO T.P T.w p [])) s hp (.inr ⟨rfl, [], upd_same, by simp [RN]⟩)
    exact h _ _ _ a1 a2 a3
/-- d.get(k), d.get(k, x) -/
def getO (x k z : D) (st : DSto) : Option (D × DSto) := match dctD x st with
  | some (t, kvs) => (dgetD t kvs k).map fun o => (o.getD z, st)
  | none => none
def dGet1 (d d2 : Den) : Den := fun ρ st => (d ρ st).bind fun x st => if (dctD x st).isSome = true then (d2 ρ st).bind fun k st => ofO (getO x k .non st) else .bad
def dGet2 (d d2 d3 : Den) : Den := fun ρ st => (d ρ st).bind fun x st => if (dctD x st).isSome = true then (d2 ρ st).bind fun k st => (d3 ρ st).bind fun z st => ofO (getO x k z st) else .bad
/-- a is a dict of any of the two kinds -/
def IsDG (P : Program) (w : World) (H : Hp) (a : Addr) : Prop := (∃ ks, Rd H a (.dK ks)) ∨ ∃ ks, H a = some (.ext (NdO P w a ks)) ∧ ∀ p ∈ ks, NK H p.1 p.2.1
theorem isG_at {pins : List (Addr × Obj)} {σ : L2.St} {H : Hp} {s : Shared} {a : Addr} (I : Inv X pins σ H s) (h : IsDG X.prog X.w H a) : s.TypeIs (.ref a) "dict" ∧ ∀ b, Value.ref a = .ref b → ∃ ob, s.heap.get? b = some ob ∧ ob.dict = none := by
  rcases h with ⟨ks, hr⟩ | ⟨ks, e, hk⟩
  · obtain ⟨t1, t2, _⟩ := isD_at I (.inl ⟨ks, hr⟩)
    exact ⟨t1, t2⟩
  · obtain ⟨_, _, xs, _, o, es, ep, ho, hx, hd, _⟩ := nd_of I.hok e hk
    refine ⟨⟨o, ho, hx.1⟩, fun b z => ?_⟩
    cases z
    exact ⟨o, ho, hx.2.1⟩
theorem isG_of {M : Mu} {H : Hp} {st : DSto} {x : D} {v : V} {t : Bool} {kvs : List (D × D)} (s : SOk T M H st) (r : RV T M H x v) (q : dctD x st = some (t, kvs)) : ∃ a, v = .ref a ∧ IsDG T.P T.w H a := by
  obtain ⟨a, rfl, ⟨_, ks, e, rk⟩ | ⟨_, ks, e, rn⟩⟩ := dctD_of s r q
  · exact ⟨a, rfl, .inl ⟨ks, e⟩⟩
  · exact ⟨a, rfl, .inr ⟨ks, e, rn_keys rn⟩⟩
def tGGet1 (P : Program) (w : World) (td ty : TE) : TE := fun σ H Q => td σ H fun x H1 => ∃ a, x = .ref a ∧ IsDG P w H1 a ∧ ty σ H1 fun y H2 => ∃ o, GGet P w H2 a y o ∧ Q (o.getD .non) H2
def tGGet2 (P : Program) (w : World) (td ty tx : TE) : TE := fun σ H Q => td σ H fun x H1 => ∃ a, x = .ref a ∧ IsDG P w H1 a ∧ ty σ H1 fun y H2 => tx σ H2 fun z H3 => ∃ o, GGet P w H3 a y o ∧ Q (o.getD z) H3
theorem pe_gget1 {td ty : TE} {apos cpos : Pos} (hu : X.A.units + 65 < cLine) (ho : PE X o td) (he : PE X e ty) (m : M1 X o "get" apos e cpos) : PE X (.Call (.Attribute o "get" apos) [e] [] cpos) (tGGet1 X.prog X.w td ty) := by
  refine ⟨fun pins s σ H Q I h => wpAny_Call_method m.base m.few m.line PySem.F.plainAttrs_dict PySem.F.slot_dict_get PySem.F.type_dict_get (thn (ho.run pins s σ H _ I h) fun u s1 ⟨x, H1, I1, rx, a, ex, hg, q1⟩ => ?_)⟩
  subst ex
  obtain rfl : u = Value.ref a := rx
  obtain ⟨t1, t2⟩ := isG_at I1 hg
  refine ⟨t1, t2, ?_⟩
  rw [m.trees]
  exact Calls.callWith_builtin rfl (Calls.evalArgs_plain (Calls.spliced_cons (thn (he.run pins s1 σ H1 _ I1 q1) fun iv s2 ⟨y, H2, I2, ry, ov, g, q2⟩ => Calls.spliced_nil (g_get1 hu I2 g ry fun w' s3 I3 rw' => ⟨_, H2, I3, rw', q2⟩))))
theorem pe_gget2 {td ty tx : TE} {apos cpos : Pos} (hu : X.A.units + 65 < cLine) (ho : PE X o td) (he : PE X e ty) (hf : PE X f tx) (m : M2 X o "get" apos e f cpos) : PE X (.Call (.Attribute o "get" apos) [e, f] [] cpos) (tGGet2 X.prog X.w td ty tx) := by
  refine ⟨fun pins s σ H Q I h => wpAny_Call_method m.base m.few m.line PySem.F.plainAttrs_dict PySem.F.slot_dict_get PySem.F.type_dict_get (thn (ho.run pins s σ H _ I h) fun u s1 ⟨x, H1, I1, rx, a, ex, hg, q1⟩ => ?_)⟩
  subst ex
  obtain rfl : u = Value.ref a := rx
  obtain ⟨t1, t2⟩ := isG_at I1 hg
  refine ⟨t1, t2, ?_⟩
  rw [m.trees]
  exact Calls.callWith_builtin rfl (Calls.evalArgs_plain (Calls.spliced_cons (thn (he.run pins s1 σ H1 _ I1 q1) fun iv s2 ⟨y, H2, I2, ry, q2⟩ =>
    Calls.spliced_cons (thn (hf.run pins s2 σ H2 _ I2 q2) fun fv s3 ⟨z, H3, I3, rz, ov, g, q3⟩ => Calls.spliced_nil (g_get2 hu I3 g ry rz fun w' s4 I4 rw' => ⟨_, H3, I4, rw', q3⟩)))))
theorem ggetO {M : Mu} {H : Hp} {st : DSto} {x k z r : D} {v y u : V} (s : SOk T M H st) (r1 : RV T M H x v) (r2 : RV T M H k y) (r3 : RV T M H z u) (q : getO x k z st = some (r, st)) :
    ∃ a o, v = .ref a ∧ GGet T.P T.w H a y o ∧ RV T M H r (o.getD u) := by
  unfold getO at q
  cases q1 : dctD x st with
  | none => rw [q1] at q; cases q
  | some p =>
    obtain ⟨t, kvs⟩ := p
    rw [q1] at q
    obtain ⟨od, q2, q3⟩ := Option.map_eq_some_iff.mp q
    obtain ⟨a, ov, rfl, g, h⟩ := ggetD s r1 q1 r2 q2
    refine ⟨a, ov, rfl, g, ?_⟩
    cases q3
    rcases h with ⟨rfl, rfl⟩ | ⟨d, w', rfl, rfl, rr⟩
    · exact r3
    · exact rr
theorem getO_st {x k z r : D} {st st' : DSto} (q : getO x k z st = some (r, st')) : st' = st := by
  unfold getO at q
  split at q
  · obtain ⟨o, _, e⟩ := Option.map_eq_some_iff.mp q
    cases e; rfl
  · cases q
theorem px_get1 {apos cpos : Pos} (h2 : Fit2 X T) (hu : X.A.units + 65 < cLine) (ho : PX X T W o d) (he : PX X T W e d2) (m : M1 X o "get" apos e cpos := by exact ⟨rfl, rfl, rfl, rfl⟩) : PX X T W (.Call (.Attribute o "get" apos) [e] [] cpos) (dGet1 d d2) :=
  pe_imp (pe_gget1 hu ho he m) fun σ H Q ⟨M, ρ, st, s, eo, h⟩ => ⟨M, ρ, st, s, eo, (Post.bind (R := RV T) h).mono fun v H1 ⟨M1', x, st1, s1, x1, r1, h1⟩ => by
    cases q : dctD x st1 with
    | none => simp [q] at h1; exact h1.elim
    | some p =>
      simp only [q, Option.isSome_some, if_true] at h1
      obtain ⟨a, rfl, hg⟩ := isG_of s1 r1 q
      refine ⟨a, rfl, by rw [h2.P, h2.w]; exact hg, M1', ρ, st1, s1, eo.ex x1, (Post.bind (R := RV T) h1).mono fun y H2 ⟨M2', k, st2, s2, x2, r2, h3⟩ => ?_⟩
      cases q2 : getO x k .non st2 with
      | none => rw [q2] at h3; exact h3.elim
      | some p2 =>
        obtain ⟨r, st3⟩ := p2
        rw [q2] at h3
        have := getO_st q2
        subst this
        obtain ⟨a', o, e, g, rr⟩ := ggetO s2 (r1.ex x2) r2 (u := .non) (by simp [RV]) q2
        cases e
        exact ⟨o, by rw [h2.P, h2.w]; exact g, h3 M2' _ H2 s2 .refl rr⟩⟩
theorem px_get2 {apos cpos : Pos} (h2 : Fit2 X T) (hu : X.A.units + 65 < cLine) (ho : PX X T W o d) (he : PX X T W e d2) (hf : PX X T W f d3) (m : M2 X o "get" apos e f cpos := by exact ⟨rfl, rfl, rfl, rfl⟩) : PX X T W (.Call (.Attribute o "get" apos) [e, f] [] cpos) (dGet2 d d2 d3) :=
  pe_imp (pe_gget2 hu ho he hf m) fun σ H Q ⟨M, ρ, st, s, eo, h⟩ => ⟨M, ρ, st, s, eo, (Post.bind (R := RV T) h).mono fun v H1 ⟨M1', x, st1, s1, x1, r1, h1⟩ => by
    cases q : dctD x st1 with
    | none => simp [q] at h1; exact h1.elim
    | some p =>
      simp only [q, Option.isSome_some, if_true] at h1
      obtain ⟨a, rfl, hg⟩ := isG_of s1 r1 q
      refine ⟨a, rfl, by rw [h2.P, h2.w]; exact hg, M1', ρ, st1, s1, eo.ex x1, (Post.bind (R := RV T) h1).mono fun y H2 ⟨M2', k, st2, s2, x2, r2, h3⟩ => ?_⟩
      refine ⟨M2', ρ, st2, s2, eo.ex (x1.trans x2), (Post.bind (R := RV T) h3).mono fun z H3 ⟨M3', zd, st3, s3, x3, r3, h4⟩ => ?_⟩
      cases q2 : getO x k zd st3 with
      | none => rw [q2] at h4; exact h4.elim
      | some p2 =>
        obtain ⟨r, st4⟩ := p2
        rw [q2] at h4
        have := getO_st q2
        subst this
        obtain ⟨a', o, e, g, rr⟩ := ggetO s3 (r1.ex (x2.trans x3)) (r2.ex x3) r3 q2
        cases e
        exact ⟨o, by rw [h2.P, h2.w]; exact g, h4 M3' _ H3 s3 .refl rr⟩⟩
end
end FV

set_option Elab.async false
set_option linter.all false
set_option maxRecDepth 100000
set_option maxHeartbeats 4000000
namespace FV
open PySem PySem.Spec PyProof.Rows L2

/-! ### {k: v for ..} by value -/
def compA {β : Type} (c : Chk) (vs : List Nat) (g : DenG) (step : DEnv → β → DSto → Option (β × DSto)) (ρ : DEnv) : List D → β → DSto → Option (β × DSto)
  | [], acc, st => if chkB c st = true then some (acc, st) else none
  | x :: xs, acc, st => if chkB c st = true then (match g x (wipeE ρ vs) st with
      | none => none
      | some (ρ1, st1) => match step ρ1 acc st1 with
        | none => none
        | some (acc2, st2) => compA c vs g step ρ xs acc2 st2) else none
def stepD (t : DenT) (ek ev : Den) (ρ : DEnv) (acc : List (D × D)) (st : DSto) : Option (List (D × D) × DSto) := match t ρ st with
  | .ok true st2 => match ek ρ st2 with
    | .ok k st3 => match ev ρ st3 with
      | .ok y st4 => if acc.length < sizeLine then (dputD false acc k y).map fun a => (a, st4) else none
      | _ => none
    | _ => none
  | .ok false st2 => some (acc, st2)
  | _ => none
def dDcB (di : DenI) (vs : List Nat) (g : DenG) (step : DEnv → List (D × D) → DSto → Option (List (D × D) × DSto)) : Den := fun ρ st => (di ρ st).bind fun p st1 => match compA p.2 vs g step ρ p.1 [] st1 with
  | some (acc, st2) => .ok (.dct false acc) st2
  | none => .bad
/-- something is built at dd beside the store, behind (M1, H1) -/
structure BIn (T : Tb) (M1 : Mu) (H1 : Hp) (dd : Addr) (M : Mu) (st : DSto) (H : Hp) : Prop where
  s : SOk T M H st
  h0 : H1 dd = none
  x : Ex M1 H1 ⟨M.l, M1.x⟩ H
  bx : M.x = dd :: M1.x
section
variable {T : Tb} {M M' M0 M1 : Mu} {H H' H0 H1 : Hp} {st st1 : DSto} {dd : Addr} {ρ : DEnv} {σ : L2.St}
theorem BIn.start (o : HO) (s1 : SOk T M1 H1 st1) (h0 : H1 dd = none) : BIn T M1 H1 dd (M1.build dd) st1 (upd H1 dd o) :=
  ⟨sok_build s1 h0, h0, .of ⟨[], by simp⟩ rfl (fun a o h _ => by rw [upd_ne (ne_of_none h h0)]; exact h) fun a h n => absurd h n, rfl⟩
theorem BIn.ix (c : BIn T M1 H1 dd M st H) : dd ∈ M.x := by rw [c.bx]; exact List.mem_cons_self
theorem BIn.nl (c : BIn T M1 H1 dd M st H) : dd ∉ M.l := fun z => c.s.dis dd z c.ix
theorem BIn.go {st' : DSto} (c : BIn T M1 H1 dd M st H) (s' : SOk T M' H' st') (x : Ex M H M' H') : BIn T M1 H1 dd M' st' H' ∧ ∀ o, H dd = some o → H' dd = some o := by
  obtain ⟨n1, e1⟩ := c.x.pre
  obtain ⟨n2, e2⟩ := x.pre
  have out : ∀ a o, H1 a = some o → a ∉ M1.l → a ∉ M.l := fun a o h f z => by
    have := (c.x.nw a z f).1
    rw [h] at this; cases this
  refine ⟨⟨s', c.h0, ⟨⟨n1 ++ n2, ?_⟩, rfl, fun a o h f => (c.x.kp a o h f).then fun u e => x.kp a u e (out a o h f), fun a o h f z => x.bx a o (c.x.bx a o h f z) (out a o h f) (by rw [c.bx]; exact List.mem_cons_of_mem _ z), fun a h n => ?_⟩, by rw [x.x, c.bx]⟩, fun o e => x.bx dd o e c.nl c.ix⟩
  · show M'.l = _
    rw [e2, show M.l = M1.l ++ n1 from e1, List.append_assoc]
  · by_cases z : a ∈ M.l
    · exact c.x.nw a z n
    · obtain ⟨y1, y2⟩ := x.nw a h z
      refine ⟨?_, fun q => y2 (by rw [c.bx]; exact List.mem_cons_of_mem _ q)⟩
      cases q : H1 a with
      | none => rfl
      | some o =>
        obtain ⟨u, e⟩ := (c.x.kp a o q n).some
        rw [y1] at e; cases e
theorem BIn.put (c : BIn T M1 H1 dd M st H) (o : HO) : BIn T M1 H1 dd M st (upd H dd o) :=
  ⟨sok_side c.s c.ix, c.h0, ⟨c.x.pre, rfl, fun a u h f => by rw [upd_ne (ne_of_none h c.h0)]; exact c.x.kp a u h f, fun a u h f z => by rw [upd_ne (ne_of_none h c.h0)]; exact c.x.bx a u h f z, c.x.nw⟩, c.bx⟩
/-- the end: what was built is told by value -/
theorem BIn.fin (s1 : SOk T M1 H1 st1) (c : BIn T M1 H1 dd M st H) : SOk T ⟨M.l, M1.x⟩ H st ∧ Ex M1 H1 ⟨M.l, M1.x⟩ H ∧ Mo M H ⟨M.l, M1.x⟩ H ∧ Fr ⟨M.l, M1.x⟩ dd := by
  have hx := c.bx
  have mo : Mo M H ⟨M.l, M1.x⟩ H := .of (fun _ _ h => h) fun a u h k => ⟨h, k.1, fun z => k.2 (by rw [hx]; exact List.mem_cons_of_mem _ z)⟩
  have f := s1.fresh c.h0
  exact ⟨⟨c.s.len, fun i ob b e1 e2 => (c.s.ro i ob b e1 e2).mo mo fun u z => z, c.s.inj, fun a ha z => c.s.dis a ha (by rw [hx]; exact List.mem_cons_of_mem _ z), fun b hb => c.s.bld b (by rw [hx]; exact List.mem_cons_of_mem _ hb)⟩, c.x, mo, c.nl, f.2⟩
theorem rk_put {kvs kvs' : List (D × D)} {ks : List (Key × V)} {k d : D} {y v : V} (r : RK T M H kvs ks) (ry : RV T M H k y) (rd : RV T M H d v) (h : dputD false kvs k d = some kvs') : ∃ g, y = kV g ∧ RK T M H kvs' (putK ks g v) := by
  have fin : ∀ g : Key, k = keyD g → y = kV g → (if (kvs.find? fun p => decide (p.1 = k)).isSome then kvs.map fun p => if p.1 = k then (p.1, d) else p else kvs ++ [(k, d)]) = kvs' → ∃ g, y = kV g ∧ RK T M H kvs' (putK ks g v) := fun g eg ey h => by
    subst eg ey
    refine ⟨g, rfl, ?_⟩
    subst h
    unfold putK
    rw [valV_any]
    rcases rk_get g r with ⟨h1, h2⟩ | ⟨p, w, h1, h2, h3⟩
    · rw [h1, h2]; exact rk_snoc rd r
    · rw [h1, h2]; exact rk_map g rd r
  cases k with
  | int i => simp only [RV] at ry; exact fin (.inl i) rfl ry (Option.some.inj h)
  | str i => simp only [RV] at ry; exact fin (.inr i) rfl ry (Option.some.inj h)
  | _ => cases h
theorem stepD_ok {t : DenT} {ek ev : Den} {acc : List (D × D)} {ks : List (Key × V)} {r : List (D × D) × DSto} {Nx : Hp → Prop}
    (c : BIn T M1 H1 dd M st H) (hd : H dd = some (.dK ks)) (rk : RK T M H acc ks) (eo : EOk T M H ρ σ) (h : stepD t ek ev ρ acc st = some r)
    (hNx : ∀ H' M' ks', Mo M H M' H' → BIn T M1 H1 dd M' r.2 H' → H' dd = some (.dK ks') → RK T M' H' r.1 ks' → Nx H') :
    tT T WN t σ H fun b H3 => if b = true then tI T WN ek σ H3 fun y H4 => tI T WN ev σ H4 fun z H5 => ∃ kvs k, y = kV k ∧ H5 dd = some (.dK kvs) ∧ kvs.length < sizeLine ∧ Nx (upd H5 dd (.dK (putK kvs k z))) else Nx H3 := by
  refine ⟨M, ρ, st, c.s, eo, ?_⟩
  unfold stepD at h
  cases q : t ρ st with
  | exc c fs st2 => rw [q] at h; cases h
  | bad => rw [q] at h; cases h
  | ok b st2 =>
    rw [q] at h
    intro M2 b' H2 s2 x2 rb
    obtain rfl : b = b' := rb
    obtain ⟨c2, k2⟩ := c.go s2 x2
    cases b with
    | false =>
      cases h
      exact hNx H2 M2 ks x2.mo c2 (k2 _ hd) (rk.mo x2.mo)
    | true =>
      refine ⟨M2, ρ, st2, s2, eo.ex x2, ?_⟩
      dsimp only at h
      cases q2 : ek ρ st2 with
      | exc c fs st3 => rw [q2] at h; cases h
      | bad => rw [q2] at h; cases h
      | ok k st3 =>
        rw [q2] at h
        intro M3 y H3 s3 x3 r3
        obtain ⟨c3, k3⟩ := c2.go s3 x3
        refine ⟨M3, ρ, st3, s3, eo.ex (x2.trans x3), ?_⟩
        dsimp only at h
        cases q3 : ev ρ st3 with
        | exc c fs st4 => rw [q3] at h; cases h
        | bad => rw [q3] at h; cases h
        | ok d st4 =>
          rw [q3] at h
          dsimp only at h
          by_cases hz : acc.length < sizeLine
          · rw [if_pos hz] at h
            obtain ⟨a', hp, rfl⟩ := Option.map_eq_some_iff.mp h
            intro M4 z H4 s4 x4 r4
            obtain ⟨c4, k4⟩ := c3.go s4 x4
            have mo := (x2.mo.trans x3.mo).trans x4.mo
            have rk4 := rk.mo mo
            have hd4 := k4 _ (k3 _ (k2 _ hd))
            have mo5 := mo_side (M := M4) (H := H4) (o := .dK ks) c4.ix
            obtain ⟨g, rfl, rk5⟩ := rk_put rk4 (r3.ex x4) r4 hp
            exact ⟨ks, g, rfl, hd4, by rw [rk.len]; exact hz, hNx _ M4 _ (mo.trans (mo_side c4.ix)) (c4.put _) upd_same (rk5.mo (mo_side c4.ix))⟩
          · rw [if_neg hz] at h; cases h
end
theorem tDc_of {T : Tb} {W : WX} {di : DenI} {vs sl : List Nat} {g : DenG} {t : DenT} {ek ev : Den} (hs : ∀ j ∈ sl, j ∈ vs) {σ : L2.St} {H : Hp} {Q : VK} (h : tI T W (dDcB di vs g (stepD t ek ev)) σ H Q) :
    tDc (tIt T W di) (tG T sl g) (tT T WN t) (tI T WN ek) (tI T WN ev) vs σ H Q := by
  obtain ⟨M, ρ, st, s, eo, h⟩ := h
  refine ⟨M, ρ, st, s, eo, (Post.bind (R := IterOk T) h).mono fun J H1 ⟨M1, p, st1, s1, x1, r1, h1⟩ dd hD => ?_⟩
  obtain ⟨src, chk⟩ := p
  dsimp only at h1
  cases q : compA chk vs g (stepD t ek ev) ρ src [] st1 with
  | none => rw [q] at h1; exact h1.elim
  | some r =>
    obtain ⟨accF, stF⟩ := r
    rw [q] at h1
    have e1 := eo.ex x1
    have m1 : Mo M1 H1 (M1.build dd) (upd H1 dd (.dK [])) := mo_build hD
    refine ⟨fun i m H' => m = src.length - i ∧ i ≤ src.length ∧ ∃ M' acc st' ks, Mo M1 H1 M' H' ∧ BIn T M1 H1 dd M' st' H' ∧ H' dd = some (.dK ks) ∧ RK T M' H' acc ks ∧ compA chk vs g (stepD t ek ev) ρ (src.drop i) acc st' = some (accF, stF),
      ⟨_, rfl, Nat.zero_le _, _, [], st1, [], m1, .start _ s1 hD, upd_same, by simp [RK], q⟩, ?_⟩
    rintro i m H2 ⟨rfl, hi2, M2, acc, st2, ks, x2, C, hd, rk, hc⟩
    by_cases hlt : i < src.length
    · rw [List.drop_eq_getElem_cons hlt] at hc
      unfold compA at hc
      by_cases hk : chkB chk st2 = true
      · rw [if_pos hk] at hc
        obtain ⟨k1, _⟩ := r1 i M2 st2 H2 x2 C.s hk
        obtain ⟨go, yld⟩ := k1 src[i] (List.getElem?_eq_getElem hlt)
        refine .inr ⟨go, fun H' => ∃ M' acc st' ks, Mo M1 H1 M' H' ∧ BIn T M1 H1 dd M' st' H' ∧ H' dd = some (.dK ks) ∧ RK T M' H' acc ks ∧ compA chk vs g (stepD t ek ev) ρ (src.drop (i + 1)) acc st' = some (accF, stF), fun H' z => ⟨src.length - (i + 1), by omega, rfl, hlt, z⟩, fun x H3 y => ?_⟩
        obtain ⟨s3, x3, r3⟩ := yld x H3 y
        have e3 : EOk T M2 H3 (wipeE ρ vs) (L2.wipe σ vs) := ((e1.mo x2).ex x3).wipe vs
        refine ⟨M2, src[i], wipeE ρ vs, st2, s3, r3, e3, ?_⟩
        cases qg : g src[i] (wipeE ρ vs) st2 with
        | none => rw [qg] at hc; cases hc
        | some pp =>
          obtain ⟨ρ4, st4⟩ := pp
          rw [qg] at hc
          dsimp only at hc
          cases qs : stepD t ek ev ρ4 acc st4 with
          | none => rw [qs] at hc; cases hc
          | some rr =>
            rw [qs] at hc
            intro M4 σ4 H4 s4 x4 e4 k4
            refine ⟨wipe_same (by rw [k4.1, wipe_length]) k4.2 hs, ?_⟩
            have xx := x3.trans x4
            obtain ⟨C4, kd⟩ := C.go s4 xx
            exact stepD_ok C4 (kd _ hd) (rk.mo xx.mo) e4 qs fun H' M' ks' mo z h1 h2 => ⟨M', rr.1, rr.2, ks', (x2.trans xx.mo).trans mo, z, h1, h2, hc⟩
      · rw [if_neg hk] at hc; cases hc
    · obtain rfl : i = src.length := by omega
      rw [List.drop_eq_nil_of_le (Nat.le_refl _)] at hc
      unfold compA at hc
      by_cases hk : chkB chk st2 = true
      · rw [if_pos hk] at hc
        have stp := (r1 _ M2 st2 H2 x2 C.s hk).2 (Nat.le_refl _)
        cases hc
        obtain ⟨a1, a2, a3, a4⟩ := C.fin s1
        refine .inl ⟨stp, h1 _ _ H2 a1 a2 ?_⟩
        simp only [RV]
        exact ⟨dd, rfl, a4, .inl ⟨True.intro, ks, .inl hd, rk.mo a3⟩⟩
      · rw [if_neg hk] at hc; cases hc
theorem px_dc {X : Cx} {T : Tb} {W : WX} {kx vx tg iter : Expr} {ifs : List Expr} {scope : Scope} {own : List (Str × Nat)} {sl : List Nat} {pos : Pos} {di : DenI} {g : DenG} {t : DenT} {ek ev : Den} (hc : X.calm = true) (hN : X.N.Nodup) (hi : PIX X T W tg iter di) (ok : BlkOk X.N X.env.scope scope own) (hsl : ∀ j ∈ sl, j ∈ own.map (·.2))
    (hg : BlkAll X scope fun Y => PGX Y T sl tg g) (ht : BlkAll X scope fun Y => PTs Y ifs (tT T WN t)) (hk : BlkAll X scope fun Y => PX Y T WN kx ek) (he : BlkAll X scope fun Y => PX Y T WN vx ev) (hs : ∀ x, foldedSetIterable iter X.env x = pure x := by intro _; rfl) :
    PX X T W (.DictComp kx vx [⟨tg, iter, ifs, 0⟩] scope pos) (dDcB di (own.map (·.2)) g (stepD t ek ev)) :=
  pe_imp (pe_dc hc hN hi ok hg ht hk he hs) fun σ H Q h => tDc_of hsl h
end FV

set_option Elab.async false
set_option linter.all false
set_option maxRecDepth 100000
set_option maxHeartbeats 4000000
namespace FV
open PySem PySem.Spec PyProof.Rows L2

/-! ### len(set(t)), t a tuple of texts -/
/-- each once, in the order met first -/
def once : List Str → List Str
  | [] => []
  | x :: xs => if x ∈ xs then once xs else x :: once xs
theorem once_mem {k : Str} : ∀ {l : List Str}, k ∈ once l ↔ k ∈ l
  | [] => Iff.rfl
  | x :: xs => by
    unfold once
    by_cases h : x ∈ xs
    · rw [if_pos h, once_mem, List.mem_cons]
      exact ⟨.inr, fun q => q.elim (fun e => e ▸ h) id⟩
    · rw [if_neg h, List.mem_cons, once_mem, List.mem_cons]
theorem once_le : ∀ l : List Str, (once l).length ≤ l.length
  | [] => Nat.le_refl _
  | x :: xs => by
    unfold once
    have := once_le xs
    split
    · simp only [List.length_cons]; omega
    · simp only [List.length_cons]; omega
theorem once_eq : ∀ {l : List Str}, (once l).length = l.length ↔ l.Nodup
  | [] => by simp [once]
  | x :: xs => by
    unfold once
    have := once_le xs
    rw [List.nodup_cons]
    by_cases h : x ∈ xs
    · rw [if_pos h]
      simp only [List.length_cons]
      exact ⟨fun q => by omega, fun q => absurd h q.1⟩
    · rw [if_neg h]
      simp only [List.length_cons, Nat.add_right_cancel_iff]
      rw [once_eq]
      exact ⟨fun q => ⟨h, q⟩, fun q => q.2⟩
/-- what a set holds when the first of the texts are in it (the last first) -/
def inSet (ks : List Str) (i : Nat) : List Str := (ks.take i).reverse
theorem inSet_succ {ks : List Str} {i : Nat} (h : i < ks.length) : inSet ks (i + 1) = ks[i] :: inSet ks i := by
  unfold inSet
  rw [List.take_succ_eq_append_getElem h, List.reverse_append]
  rfl
section
variable {P : Program} {w : World} {A : Around} {E : Value → Shared → Prop} {s : Shared}
theorem put_step {ks : List Str} {i : Nat} (h : i < ks.length) (k : Str) : (decide (k ∈ inSet ks i) || decide (k = ks[i])) = decide (k ∈ inSet ks (i + 1)) := by
  rw [inSet_succ h, Bool.eq_iff_iff]
  simp only [Bool.or_eq_true, decide_eq_true_eq, List.mem_cons]
  exact ⟨fun q => q.elim .inr .inl, fun q => q.elim .inr .inl⟩
theorem len_step {ks : List Str} {i : Nat} (h : i < ks.length) : (once (inSet ks (i + 1))).length = if decide (ks[i] ∈ inSet ks i) = true then (once (inSet ks i)).length else (once (inSet ks i)).length + 1 := by
  rw [inSet_succ h]
  show (if ks[i] ∈ inSet ks i then once (inSet ks i) else ks[i] :: once (inSet ks i)).length = _
  by_cases q : ks[i] ∈ inSet ks i
  · rw [if_pos q, if_pos (decide_eq_true q)]
  · rw [if_neg q, if_neg (by rw [decide_eq_false q]; decide)]; rfl
abbrev StrSet (P : Program) (w : World) (h : Heap) (S : Addr) (ks : List Str) (i : Nat) : Prop := h.SetOf (strKind P w) S (fun k => decide (k ∈ inSet ks i)) (once (inSet ks i)).length
theorem setOf_mv {h h' : Heap} {S : Addr} {ks : List Str} {i : Nat} (x : StrSet P w h S ks i) (k : ∀ o, h.get? S = some o → h'.get? S = some o) : StrSet P w h' S ks i := by
  obtain ⟨o, es, ep, t, ho, r⟩ := x
  exact ⟨o, es, ep, t, k _ ho, r⟩
/-- the texts of what is walked go in, one after the other -/
theorem update_strs {I : Addr} {fp wr : List Addr} {G : Array GenState → Array GenState → Prop} {n : Nat} {Pv : Nat → Value → Prop} {St : Nat → Shared → Prop} {R : Result → Shared → Prop}
    (W : WalksS P w A.in1 I fp wr G n Pv St) (S : Addr) (hSf : S ∉ fp) (ks : List Str) (hn : n = ks.length) (hb : ks.length + 1 < scanBound) (hval : ∀ i v, Pv i v → ∃ k t, ks[i]? = some k ∧ v = .str k t) :
    ∀ (m i : Nat) (s : Shared), n - i = m → i ≤ n → St i s → StrSet P w s.heap S ks i →
      (∀ s', Moved (S :: wr) G s s' → StrSet P w s'.heap S ks n → R (.ok (.ret .none)) s') → codeAny (model P w) A (.builtin "set.update.loop" ⟨[.ref S, .ref I], []⟩) R s := by
  have hSw : S ∉ wr := fun h => hSf (W.sub _ h)
  have up : ∀ b ∈ wr, b ∈ S :: wr := fun b hb => List.mem_cons_of_mem _ hb
  intro m
  induction m with
  | zero =>
    intro i s hk hi hst hS hR
    obtain rfl : i = n := by omega
    refine codeAny_builtin F.entry_set_update_loop ?_
    rw [Around.under_plainId F.plain_set_update_loop _]
    show wpAny _ A.in1 (pyNext (.ref I) >>= _) _ _ s
    exact wpAny_bind (W.done s _ _ hst fun s' hm => wpAny_pure (hR s' (hm.mono up) (setOf_mv hS fun o e => hm.heap S _ hSw e)))
  | succ m ih =>
    intro i s hk hi hst hS hR
    have hlt : i < n := by omega
    have hlt2 : i < ks.length := by omega
    refine codeAny_builtin F.entry_set_update_loop ?_
    rw [Around.under_plainId F.plain_set_update_loop _]
    show wpAny _ A.in1 (pyNext (.ref I) >>= _) _ _ s
    refine wpAny_bind (W.item i s _ _ hlt hst fun v s' hP hst' hm => ?_)
    obtain ⟨k, t, hk2, rfl⟩ := hval i v hP
    obtain rfl : ks[i] = k := Option.some.inj ((List.getElem?_eq_getElem hlt2).symm.trans hk2)
    have hS' : StrSet P w s'.heap S ks i := setOf_mv hS fun o e => hm.heap S _ hSw e
    show wpAny _ A.in1 (holding [Value.str ks[i] t] (setAdd S (.str ks[i] t)) >>= _) _ _ s'
    refine wpAny_bind (wpAny_holding ?_)
    unfold setAdd
    refine wpAny_holding (wpAny_bind ((strKind P w).pyHash (k := ks[i]) (strKind_is _ _ _ _) ?_))
    have room : (once (inSet ks i)).length + 1 < scanBound := by
      have h1 := once_le (inSet ks i)
      have h2 : (inSet ks i).length ≤ ks.length := by unfold inSet; rw [List.length_reverse, List.length_take]; omega
      omega
    refine wpAny_setAddHashed_of (knd := strKind P w) (s := { s' with toks := s'.toks + 1 }) (strKind_is _ _ _ _) rfl hS' room fun h' hsb hS2 => ?_
    have hSi : StrSet P w h' S ks (i + 1) := SetOf_congr hS2 (put_step hlt2) (len_step hlt2).symm
    refine wpAny_pure ⟨plainId_quiet F.plain_set_update_loop _, ih (i + 1) _ (by omega) hlt (W.frame _ s' _ _ hst' (Nat.le_succ _) fun b hb o e => ?_) hSi fun s'' hm'' hS'' => ?_⟩
    · rw [hsb.2 b (fun h : b = S => hSf (by rw [← h]; exact hb))]; exact e
    · refine hR s'' (Moved.trans W.gtrans ((hm.mono up).then_heap (Nat.le_succ _) fun b o hb e => ?_) hm'') hS''
      rw [hsb.2 b (fun h : b = S => hb (by rw [h]; exact List.mem_cons_self))]; exact e
/-- an empty set, not yet filled -/
abbrev set0 (w : World) : Obj := { cls := .type "set", dict := none, data := .set #[] 0 (.fresh 0 0 (!w.params.followText "set-order")) }
theorem strSet0 {h : Heap} {S : Addr} {ks : List Str} (e : h.get? S = some (set0 w)) : StrSet P w h S ks 0 :=
  SetOf_congr ((setObjOf_fresh (knd := strKind P w) (!w.params.followText "set-order")).setOf e (by unfold scanBound; omega)) (fun _ => by simp [inSet]) (by simp [inSet, once])
/-- set(t) -/
theorem call_set_strs {l : Addr} {items : Array Value} (ks : List Str) {Q : Value → Shared → Prop} (hh : A.handled = none) (hl : s.heap.IsTuple l items) (hsz : items.size = ks.length) (hval : ∀ (i : Nat) (v : Value), items[i]? = some v → ∃ k t, ks[i]? = some k ∧ v = .str k t) (hb : ks.length + 1 < scanBound)
    (h : ∀ (h' : Heap) (tk : Nat), StrSet P w h' s.heap.objs.size ks ks.length → (∀ b o, s.heap.get? b = some o → h'.get? b = some o) → Q (.ref s.heap.objs.size) { s with heap := h', toks := tk }) :
    wpAny (model P w) A (call (.type "set") [.ref l]) Q E s := by
  obtain ⟨c, tl, hmro⟩ := F.called_set.mro
  have hmade := F.called_set.made
  have hsub := F.called_set.sub
  have h1 := F.called_set.notType
  have h2 := F.called_set.canCreate
  have hct := F.typeCall_set_1 (.ref l)
  refine wpAny_call (codeAny_of_tree ?_)
  show wpAny _ _ (callAny (.type "set") _) _ _ _
  refine wpAny_pure ⟨Code.quiet_builtin _ (by decide +kernel), codeAny_builtin F.entry_type_call ?_⟩
  rw [Around.under_plain (weight_type_call_type "set" [.ref l] []) rfl]
  repeat (any_goals (first | assumption | wp_step))
  refine codeAny_mono (code_set_led1 (.ref l) (E := E) (Q₁ := fun obj s₁ => obj = .ref s.heap.objs.size ∧ s₁ = { s with heap := s.heap.push (set0 w) }) ⟨rfl, rfl⟩) fun r s₁ hr => ?_
  cases r with
  | error e => exact hr
  | ok fl =>
    cases fl with
    | ret obj =>
      obtain ⟨rfl, rfl⟩ := hr
      have hS : (s.heap.push (set0 w)).get? s.heap.objs.size = some (set0 w) := Heap.get?_push_size _ rfl
      have hT : Shared.TypeIs { s with heap := s.heap.push (set0 w) } (.ref s.heap.objs.size) "set" := ⟨_, hS, rfl⟩
      have hli := F.called_set.init.lookup
      have hbi := F.called_set.init.bind (.ref s.heap.objs.size)
      repeat (any_goals (first | assumption | wp_step))
      refine codeAny_mono (codeAny_call_builtin (R := wants (fun r s₂ => r = .none ∧ ∃ h' tk, s₂ = { s with heap := h', toks := tk } ∧ StrSet P w h' s.heap.objs.size ks ks.length ∧ (∀ b o, s.heap.get? b = some o → h'.get? b = some o)) E) F.called_set.init.plain F.entry_set_init (check_set_init_1 hT ?_)) fun r₂ s₂ hr₂ => ?_
      · obtain ⟨⟨ocls, odict, odata, oslots⟩, hol, hcl, nl, hdl⟩ := hl
        simp only at hcl hdl
        subst hcl hdl
        have lt : l < s.heap.objs.size := Heap.lt_size hol
        have hl1 : (s.heap.push (set0 w)).IsTuple l items := ⟨_, Heap.get?_push_of_some _ hol, rfl, nl, rfl⟩
        have hol' : (s.heap.push (set0 w)).get? l = some { cls := .type "tuple", dict := odict, data := .seq items nl, slots := oslots } := Heap.get?_push_of_some _ hol
        have hsls := F.sub_tuple_set
        have hslf := F.sub_tuple_frozenset
        have hne : (Value.type "tuple" == Value.type "dict") = false := by decide
        unfold Builtin.«set.__init__» noKeywords Builtin.Frozenset.updateFrom
        generalize hPI : pyIter = PI
        wp_walk
        subst hPI
        refine wpAny_pyIter_tuple hl1 (wpAny_bind (wpAny_runValue ?_))
        have hh3 : A.in1.in1.in1.handled = none := by simp [hh]
        have hz1 : (s.heap.push (set0 w)).objs.size = s.heap.objs.size + 1 := Heap.size_push ..
        have hneI : l ≠ (s.heap.push (set0 w)).objs.size := by rw [hz1]; exact Nat.ne_of_lt (Nat.lt_succ_of_lt lt)
        have hSf : s.heap.objs.size ∉ [(s.heap.push (set0 w)).objs.size, l] := by
          rw [hz1]
          simp only [List.mem_cons, List.not_mem_nil, or_false, not_or]
          exact ⟨Nat.ne_of_lt (Nat.lt_succ_self _), Nat.ne_of_gt lt⟩
        refine update_strs ((Walks.tuple hh3 _ l hneI items).toS) s.heap.objs.size hSf ks hsz hb hval (items.size - 0) 0 _ (by omega) (Nat.zero_le _) ⟨⟨_, Heap.get?_push_size _ rfl, rfl, rfl⟩, (hl1.push _)⟩ (strSet0 (Heap.get?_push_of_some _ hS)) fun s' hm hS' => ?_
        obtain ⟨h', g2, d', tk', os'⟩ := s'
        have eg : g2 = s.gens := hm.gens
        have ed : d' = s.drawn := hm.drawn
        have eo : os' = s.os := hm.os
        subst eg ed eo
        show wpAny _ _ _ _ _ _
        refine wpAny_pure ?_
        show wpAny _ _ (ret Value.none) _ _ _
        rw [hsz] at hS'
        refine wpAny_pure ⟨rfl, h', tk', rfl, hS', fun b o e => ?_⟩
        have hb0 : b < s.heap.objs.size := Heap.lt_size e
        refine hm.heap b o ?_ (Heap.get?_push_of_some _ (Heap.get?_push_of_some _ e))
        rw [hz1]
        simp only [List.mem_cons, List.not_mem_nil, or_false, not_or]
        exact ⟨Nat.ne_of_lt hb0, Nat.ne_of_lt (Nat.lt_succ_of_lt hb0)⟩
      · cases r₂ with
        | error e => exact hr₂
        | ok fl₂ =>
          cases fl₂ with
          | ret r =>
            obtain ⟨rfl, h', tk, rfl, hS', hk'⟩ := hr₂
            repeat (any_goals (first | assumption | wp_step))
            exact h _ _ hS' hk'
          | _ => exact hr₂.elim
    | _ => exact hr.elim
end
/-- the texts of a row -/
def txtsD : List D → Option (List Str)
  | [] => some []
  | .str z :: xs => (txtsD xs).map fun l => z :: l
  | _ :: _ => none
def dLenSet (d : Den) : Den := fun ρ st => (d ρ st).bind fun x st => match x with
  | .tup xs => match txtsD xs with
    | some ks => if ks.length ≤ 1000 then .ok (.int (once ks.reverse).length) st else .bad
    | none => .bad
  | _ => .bad
theorem strs_vals {T : Tb} {M : Mu} {H : Hp} : ∀ {xs : List D} {vs : List V} {ks : List Str}, RVs T M H xs vs → txtsD xs = some ks → vs = ks.map V.str
  | [], vs, ks, r, h => by
    simp only [RVs] at r
    cases h
    rw [r]; rfl
  | x :: xs, vs, ks, r, h => by
    simp only [RVs] at r
    obtain ⟨v, ws, rfl, r1, r2⟩ := r
    cases x with
    | str z =>
      obtain ⟨l, hl, rfl⟩ := Option.map_eq_some_iff.mp h
      simp only [RV] at r1
      rw [r1, strs_vals r2 hl]
      rfl
    | _ => cases h
def tLenSetS (K : PySem.W.Frag) (ta : TE) : TE := fun σ H Q => ta σ H fun x H1 => ∃ (l : Addr) (ks : List Str), x = V.ref l ∧ SqT K H1 l (ks.map V.str) ∧ ks.length ≤ 1000 ∧ Q (.int (once ks.reverse).length) H1
theorem pe_lenSetS {X : Cx} {a : Expr} {ta : TE} {p p2 q pos : Pos} (hc : X.calm = true) (hg : Gl X "len") (hm : X.mg "len" = none) (hg2 : Gl X "set") (hm2 : X.mg "set" = none) (ha : PE X a ta)
    (na : starEach [a] X.env = (false, eval a X.env) :: starEach [] X.env := by rfl) : PE X (.Call (.Name "len" p) [.Call (.Name "set" p2) [a] [] q] [] pos) (tLenSetS X.K ta) := by
  refine ⟨fun pins s σ H Q I h => Call_ (ld_blt I hg hm PySem.boot_len (callWith_builtin1 (args_cons ?_ rfl) rfl rfl))⟩
  refine Call_ (ld_blt I hg2 hm2 boot_set (callWith_type1 (args_cons (thn (ha.run pins s σ H _ I h) fun v s1 ⟨x, H1, I1, r1, l, ks, ex, hq, h1, q1⟩ => args_nil ?_) na) na rfl))
  subst ex
  cases r1
  obtain ⟨its, r, pl, hz⟩ := I1.tuple hq
  have hl : its.toArray.size = ks.length := by rw [List.size_toArray, ← r.length, List.length_map]
  refine call_set_strs (P := X.prog) (w := X.w) ks (I1.ok.hd hc) (show s1.heap.IsTuple l its.toArray from pl) hl (fun i v hv => ?_) (by unfold scanBound; omega) fun h' tk hS hk => ?_
  · have hi : i < its.length := by
      have := (Array.getElem?_eq_some_iff.mp hv).1
      simpa using this
    have hv' : its[i]? = some v := by simpa using hv
    have hik : i < ks.length := by rw [← hl]; simpa using hi
    obtain ⟨u, hu, ru⟩ := r.get (x := V.str ks[i]) (by rw [List.getElem?_map, List.getElem?_eq_getElem hik]; rfl)
    rw [hv'] at hu
    cases hu
    obtain ⟨t, rfl⟩ := ru
    exact ⟨ks[i], t, List.getElem?_eq_getElem hik, rfl⟩
  · refine args_nil ?_
    obtain ⟨o, es, ep, t, ho, hex, hd, _, _, hsc, hf, hn⟩ := hS
    have I2 : Inv X pins σ H1 { s1 with heap := h', toks := tk } := I1.kept hk
    have hn2 : es.size = (once ks.reverse).length := by rw [hn]; unfold inSet; rw [List.take_length]
    refine call_len_set ho hex hd hf (by unfold scanBound at hsc; omega) ⟨.int es.size, H1, I2.tok _, ⟨_, rfl⟩, ?_⟩
    rw [hn2]
    exact q1
theorem px_lenSet {X : Cx} {T : Tb} {W : WX} {a : Expr} {d : Den} {p p2 q pos : Pos} (hK : X.K = T.K) (hc : X.calm = true) (hm : X.mg "len" = none) (hm2 : X.mg "set" = none) (ha : PX X T W a d) (hg : Gl X "len" := by rfl) (hg2 : Gl X "set" := by rfl)
    (na : starEach [a] X.env = (false, eval a X.env) :: starEach [] X.env := by rfl) : PX X T W (.Call (.Name "len" p) [.Call (.Name "set" p2) [a] [] q] [] pos) (dLenSet d) :=
  pe_imp (pe_lenSetS hc hg hm hg2 hm2 ha na) fun σ H Q ⟨M, ρ, st, s, eo, h⟩ => ⟨M, ρ, st, s, eo, (Post.bind (R := RV T) h).mono fun v H1 ⟨M1, x, st1, s1, x1, r1, h1⟩ => by
    cases x with
    | tup xs =>
      dsimp only at h1
      simp only [RV] at r1
      obtain ⟨l, vs, rfl, f, e1, rr⟩ := r1
      cases hk : txtsD xs with
      | none => rw [hk] at h1; exact h1.elim
      | some ks =>
        rw [hk] at h1
        dsimp only at h1
        by_cases hl : ks.length ≤ 1000
        · rw [if_pos hl] at h1
          refine ⟨l, ks, rfl, ?_, hl, h1 M1 _ H1 s1 .refl (by simp [RV])⟩
          rw [← strs_vals rr hk]
          exact SqT.of e1
        · rw [if_neg hl] at h1; exact h1.elim
    | _ => exact h1.elim⟩
end FV

set_option Elab.async false
set_option linter.all false
set_option maxRecDepth 100000
set_option maxHeartbeats 4000000
namespace FV
open PySem PySem.Spec PyProof.Rows L2

/-! ### what is never reached -/
def dBad : Den := fun _ _ => .bad
def sBad : DenS := fun _ _ => .bad
def iBad : DenI := fun _ _ => .bad
section
variable {X : Cx} {T : Tb} {W : WX}
theorem px_bad {e : Expr} : PX X T W e dBad := ⟨fun _ _ _ _ _ _ ⟨_, _, _, _, _, h⟩ => h.elim⟩
theorem psx_bad {s : Stmt} : PSX X T W s sBad := ⟨fun _ _ _ _ _ _ ⟨_, _, _, _, _, h⟩ => h.elim⟩
theorem pssx_bad {s : List Stmt} : PSsX X T W s sBad := ⟨fun _ _ _ _ _ _ ⟨_, _, _, _, _, h⟩ => h.elim⟩
theorem pix_bad {tg e : Expr} : PIX X T W tg e iBad := ⟨fun _ _ _ _ _ _ ⟨_, _, _, _, _, h⟩ => h.elim⟩
/-! ### C.N, a number that stands in the class -/
def CcG (T : Tb) (mg : Str → Option Value) (x f : Str) (n : Int) : Prop := ∃ C t, mg x = some (.ref C) ∧ ClX.CRead T.K C (.type "type") ∧ PySem.W.findCls T.K (.ref C) (.type "type") f = some (.val (.int n t))
theorem px_cconst {x f : Str} {n : Int} {p pos : Pos} (hK : X.K = T.K) (h : CcG T X.mg x f n) (hg : Gl X x := by rfl) (hd : (x == ("__debug__" : Str)) = false := by decide) (hb : attributeBase (.Name x p) f X.env (eval (.Name x p) X.env) = eval (.Name x p) X.env := by rfl) :
    PX X T W (.Attribute (.Name x p) f pos) (dC (.int n)) := by
  obtain ⟨C, t, hm, r, e⟩ := h
  rw [← hK] at r e
  exact px_const (v := .int n) (pe_imp (ClX.pe_cval (pe_glob (v := .ref C) hg hm rfl hd) hb) fun σ H Q h => ⟨C, _, .int n, .int n t, rfl, r, ⟨e, ⟨t, rfl⟩⟩, h⟩) fun _ _ => by simp [RV]
end
/-! ### the class of an own error -/
theorem xcg_of {P : Program} {w : World} {T : Tb} {mg : Str → Option Value} {base : Heap} {N ps names : List Str} {nms : List Nat} {x name qual : Str} {scope : Scope} {f C cc : Addr} {cdv : Value} {params : Arguments} {rest body : List Stmt} {dV kV doc pm ct oc : Value} {an od : Option Addr} {osl : Array (Option Value)} {k c : Nat} {e : Expr} {p0 p1 p2 p3 p4 : Pos} {ar : Arg} {text : Str} {msg : Option Nat}
    (hC : T.CT[c]? = some C) (hm : mg x = some (.ref C)) (iC : PySem.W.findIn T.K (.ref C) "__init__" = some (some (.ref f))) (tI : PySem.W.typeIn T.K (.ref f) = some (.type "function")) (hnm : nms.map (fun i => T.FT[i]?) = names.map some)
    (lk : T.K.lookup f = some ⟨oc, od, .func (PySem.W.ksFn name qual params body scope dV kV doc pm an cdv ct cc), osl⟩) (hcd : PySem.W.codeIn T.K cdv qual = true) (S : SupScope N ps scope)
    (hbody : body = .Expr (.Call (.Attribute (.Call (.Name "super" p0) [] [] p1) "__init__" p2) [e] [] p3) p4 :: rest)
    (Tk : SupK P T.K C f cc cdv) (hms : mg "super" = none) (hp : (params.posonlyargs ++ params.args).head? = some ar) (hN : N[0]? = some ar.arg) (hps : ps.length = names.length + 1) (h0 : 0 < names.length) (h8 : names.length ≤ 800) (hNl : N = ps)
    (hno : ∀ n ∈ names, PySem.W.findIn T.K (.ref C) n = some none) (ht : text.length ≤ 1000)
    (hrest : ∀ (A : Around) (outer : List Env) (s : Shared) (H : Hp) (E : XK), PSs (cxSup P w T.K mg base N qual scope f cdv cc A outer s H E) rest (tOsts T.K (names.zip ((List.range names.length).map (· + 1)))))
    (hmsg : ∀ (A : Around) (outer : List Env) (s : Shared) (H : Hp) (E : XK), PA (cxSup P w T.K mg base N qual scope f cdv cc A outer s H E) [e] (tMsg text msg))
    (hb : ∀ us : List Value, us.length = ps.length → bindArgs (PySem.W.ksFn name qual params body scope dV kV doc pm an cdv ct cc) ⟨us, []⟩ = pure (ps.zip us)) (pl : Env → Sem Bool)
    (heq : ∀ env : Env, eval (.Call (.Attribute (.Call (.Name "super" p0) [] [] p1) "__init__" p2) [e] [] p3) env = (do
      let ov ← attributeBase (.Call (.Name "super" p0) [] [] p1) "__init__" env (eval (.Call (.Name "super" p0) [] [] p1) env)
      standAt p2.atName
      let (f, first) ← holding [ov] (getMethod ov "__init__" (pl env))
      callWith p3 f first (backTo p3 (starEach [e] env)) []) := by intro _; rfl)
    (hst : ∀ env : Env, starEach [e] env = (false, eval e env) :: starEach [] env := by intro _; rfl)
    (hsw : ∀ env : Env, swapsWith (.Call (.Attribute (.Call (.Name "super" p0) [] [] p1) "__init__" p2) [e] [] p3) none p4.line env = pure false := by intro _; rfl) : XcG P w T mg base (k + 1) x c nms msg :=
  ⟨C, f, _, ps, names, hC, hm, Tk.ox, iC, tI, fnok_err lk hcd S hbody Tk hms hp hN hps h0 h8 hNl hno ht hrest (fun A outer s H E _ => hmsg A outer s H E) pl heq hst hsw, .all hb, hnm⟩
/-! ### a class whose __init__ has one keyword-only parameter with the default None -/
def kwN (G : FnD) : FnD := fun ds st => G (ds ++ [.non]) st
theorem clg_ofK {P : Program} {w : World} {T : Tb} {mg : Str → Option Value} {base : Heap} {N ps : List Str} {qual X : Str} {st : Stmt} {f C : Addr} {fd : FuncData} {k c : Nat} {b : DenS} {u : Value} (F : Fun T.K "__init__" qual st f fd) (hC : T.CT[c]? = some C) (hm : mg X = some (.ref C)) (cl : Cls T.K C) (mk : PySem.W.makesIn T.K C = true) (kc : PySem.W.keepIn T.K (.ref C) = true) (a : PySem.W.findIn T.K (.ref C) "__init__" = some (some (.ref f))) (i : PySem.W.isFn T.K (.ref f) = true)
    (S : FnScope N ps (defScope st)) (hb : Binds T.K fd ps [.none]) {G : FnD} (hG : IsBody ps.length N.length b G) (h : BodyX P w T mg base k N qual st f b) : ClG P w T mg base (k + 1) c X (kwN G) :=
  ⟨C, f, hC, hm, ⟨mk, a, i, kc⟩, cl, ((fnok_body F S hG h).raw (dvs := [.non]) hb (.cons rfl .nil)).imp fun vs H Q E ⟨M, ds, st', so, r, hp⟩ => ⟨M, ds ++ [D.non], st', so, r.app (RVs.one (by simp [RV])), (show PostF T M H (G (ds ++ [D.non]) st') Q E from hp)⟩⟩
end FV

set_option Elab.async false
set_option linter.all false
set_option maxRecDepth 100000
set_option maxHeartbeats 4000000
namespace FV
open PySem PySem.Spec PyProof.Rows L2

/-! ### bundles for the walk of a try -/
def SbG (T : Tb) (mg : Str → Option Value) (x : Str) (sub : List (Nat × Bool)) : Prop := ∃ C, mg x = some (.ref C) ∧ SubG T T.K (.ref C) sub
def IeG (T : Tb) (mg : Str → Option Value) (sub : List (Nat × Bool)) (y : Str) (l : List (Nat × Bool)) : Prop := ∃ C, mg y = some (.ref C) ∧ IsEG T sub (.ref C) l
section
variable {T : Tb} {K : PySem.W.Frag} {cls : Value} {sub l : List (Nat × Bool)} {k : Nat} {C : Addr} {b : Bool} {n : Str}
theorem subg_nil : SubG T K cls [] := fun c b C h _ => by cases h
theorem subg_cons (hC : T.CT[k]? = some C) (h : PySem.W.exmOne K (.ref C) cls = some b) (r : SubG T K cls sub) : SubG T K cls ((k, b) :: sub) := fun c b' C' h1 h2 => by
  unfold subD at h1
  by_cases e : k = c
  · subst e
    rw [if_pos rfl] at h1
    cases h1
    rw [hC] at h2
    cases h2
    exact h
  · rw [if_neg e] at h1
    exact r c b' C' h1 h2
/-- for the classes of a list that a clause takes -/
def OnG (T : Tb) (sub : List (Nat × Bool)) (p : Nat → Addr → Prop) : Prop := ∀ c C, subD sub c = some true → T.CT[c]? = some C → p c C
theorem ong_nil {p : Nat → Addr → Prop} : OnG T [] p := fun c C h _ => by cases h
theorem ong_yes {p : Nat → Addr → Prop} (hC : T.CT[k]? = some C) (h : p k C) (r : OnG T sub p) : OnG T ((k, true) :: sub) p := fun c C' h1 h2 => by
  unfold subD at h1
  by_cases e : k = c
  · subst e
    rw [hC] at h2
    cases h2
    exact h
  · rw [if_neg e] at h1
    exact r c C' h1 h2
theorem ong_no {p : Nat → Addr → Prop} (r : OnG T sub p) : OnG T ((k, false) :: sub) p := fun c C' h1 h2 => by
  unfold subD at h1
  by_cases e : k = c
  · subst e
    rw [if_pos rfl] at h1
    cases h1
  · rw [if_neg e] at h1
    exact r c C' h1 h2
theorem xfg_of (h : OnG T sub fun _ C => XfC T.K C ∧ PySem.W.findIn T.K (.ref C) n = some none) : XfG T sub n := h
theorem ieg_of {cv : Value} (h : OnG T sub fun c C => IsK T.K C ∧ ∀ b, subD l c = some b → PySem.W.kitOne T.K (.ref C) cv = some b) : IsEG T sub cv l := h
end
section
variable {X : Cx} {T : Tb} {W : WX}
theorem hx_plain {x : Str} {hd : Hd} {b : Stmt} {suite : List Stmt} {np p : Pos} {hds : List ExceptHandler} {l : List Hd} (hK : X.K = T.K) (h : SbG T X.mg x hd.sub) (hs : SuX X T hd.sub b suite hd.suite) (r : HX X T hds l) (hn : hd.slot = none := by rfl) (hg : Gl X x := by rfl) (hdb : (x == ("__debug__" : Str)) = false := by decide) :
    HX X T (.ExceptHandler (some (.Name x np)) none (b :: suite) p :: hds) (hd :: l) := by
  obtain ⟨C, hm, hsub⟩ := h
  exact .plain (cls := .ref C) ⟨hg, hdb, .inl hm⟩ (by rw [hK]; exact hsub) hn hs r
theorem hx_named (i : Nat) {x n : Str} {hd : Hd} {b : Stmt} {suite : List Stmt} {np p : Pos} {hds : List ExceptHandler} {l : List Hd} (hK : X.K = T.K) (h : SbG T X.mg x hd.sub) (hs : SuX X T hd.sub b suite hd.suite) (r : HX X T hds l) (hn : hd.slot = some i := by rfl) (hi : X.N[i]? = some n := by rfl) (hk : X.env.kindOf n = some .local := by rfl) (hg : Gl X x := by rfl) (hdb : (x == ("__debug__" : Str)) = false := by decide) :
    HX X T (.ExceptHandler (some (.Name x np)) (some n) (b :: suite) p :: hds) (hd :: l) := by
  obtain ⟨C, hm, hsub⟩ := h
  exact .named (cls := .ref C) ⟨hg, hdb, .inl hm⟩ (by rw [hK]; exact hsub) hn hi hk hs r
theorem fits_su {a : Addr} {pn : List (Addr × Obj)} {e : Option (Addr × Addr × Nat)} (hK : X.K = T.K) : Fits (X.suite a pn) (T.at e) WNo := ⟨hK, takes_none5⟩
variable {a dd C : Addr} {c : Nat} {oe : Obj} {pn : List (Addr × Obj)} {sub : List (Nat × Bool)}
theorem px_isE1 {e : Expr} {d : Den} {y : Str} {l : List (Nat × Bool)} {p p2 pos : Pos} (hK : X.K = T.K) (hC : T.CT[c]? = some C) (hs : subD sub c = some true) (G : IeG T X.mg sub y l) (hz : Zc (.ref C) (some dd) oe) (hf : ∃ vs, oe.data = .fields vs)
    (hm : X.mg "isinstance" = none) (he : PX (X.suite a ((a, oe) :: pn)) (T.at (some (a, dd, c))) W e d) (hgy : Gl (X.suite a ((a, oe) :: pn)) y := by rfl) (hdy : (y == ("__debug__" : Str)) = false := by decide)
    (hg : Gl (X.suite a ((a, oe) :: pn)) "isinstance" := by rfl) (hs1 : starEach [e, .Name y p2] X.env = (false, eval e X.env) :: starEach [.Name y p2] X.env := by rfl) (hs2 : starEach [.Name y p2] X.env = (false, eval (.Name y p2) X.env) :: starEach [] X.env := by rfl)
    (hpl : (backTo pos (starEach [.Name y p2] X.env)).any (·.1) = false := by rfl) : PX (X.suite a ((a, oe) :: pn)) (T.at (some (a, dd, c))) W (.Call (.Name "isinstance" p) [e, .Name y p2] [] pos) (dIsE l d) := by
  obtain ⟨C2, hm2, hG⟩ := G
  exact px_isE (vv := .ref C2) hK hC hs hG hz hf hm (fun u r => r) (pe_glob hgy hm2 rfl hdy) he hg hs1 hs2 hpl
theorem px_isE2 {e : Expr} {d : Den} {y : Str} {ty : String} {l : List (Nat × Bool)} {p p2 pos : Pos} (hK : X.K = T.K) (hC : T.CT[c]? = some C) (hs : subD sub c = some true) (G : IsEG T sub (.type ty) l) (hz : Zc (.ref C) (some dd) oe) (hf : ∃ vs, oe.data = .fields vs)
    (hm : X.mg "isinstance" = none) (hm2 : X.mg y = none) (he : PX (X.suite a ((a, oe) :: pn)) (T.at (some (a, dd, c))) W e d) (hv : bootBuiltins y = some (.type ty) := by decide +kernel) (hgy : Gl (X.suite a ((a, oe) :: pn)) y := by rfl) (hny : y ≠ "__name__" := by decide) (hdy : (y == ("__debug__" : Str)) = false := by decide)
    (hg : Gl (X.suite a ((a, oe) :: pn)) "isinstance" := by rfl) (hs1 : starEach [e, .Name y p2] X.env = (false, eval e X.env) :: starEach [.Name y p2] X.env := by rfl) (hs2 : starEach [.Name y p2] X.env = (false, eval (.Name y p2) X.env) :: starEach [] X.env := by rfl)
    (hpl : (backTo pos (starEach [.Name y p2] X.env)).any (·.1) = false := by rfl) : PX (X.suite a ((a, oe) :: pn)) (T.at (some (a, dd, c))) W (.Call (.Name "isinstance" p) [e, .Name y p2] [] pos) (dIsE l d) :=
  px_isE (vv := .ty ty) hK hC hs G hz hf hm (fun u r => by cases r; rfl) (pe_bltn hgy hm2 hv rfl hny hdy) he hg hs1 hs2 hpl
end
end FV

set_option Elab.async false
set_option linter.all false
set_option maxRecDepth 100000
set_option maxHeartbeats 4000000
namespace FV
open PySem PySem.Spec PyProof.Rows L2

/-! ### a row of statements cut in two; the first part's own objects are told by value behind it -/
theorem execs_app {env : Env} {b : List Stmt} : ∀ a : List Stmt, execs (a ++ b) env = (do match ← execs a env with | .next => execs b env | f => pure f)
  | [] => by
    show execs b env = (execs [] env >>= _)
    rw [show execs [] env = pure Flow.next from rfl, pure_bind]
  | st :: a => by
    rw [List.cons_append, execs_cons, execs_cons, execs_app a, bind_assoc]
    congr 1
    funext f
    cases f <;> first | rfl | (rw [pure_bind])
theorem pss_app {X : Cx} {a b : List Stmt} {ta tb : TS} (h1 : PSs X a ta) (h2 : PSs X b tb) : PSs X (a ++ b) (tSeq ta tb) := by
  refine ⟨fun pins s σ H D I h => ?_⟩
  rw [execs_app]
  refine wpAny_bind (thn (h1.run pins s σ H { D with nx := tb D } I h) fun f s1 q => ?_)
  cases f with
  | next => obtain ⟨σ1, H1, I1, q1⟩ := q; exact h2.run pins s1 σ1 H1 D I1 q1
  | brk => exact wpAny_pure q
  | cont => exact wpAny_pure q
  | ret v => exact wpAny_pure q
def popB (b : DenS) : DenS := fun ρ st => match b ρ st with
  | .nx ρ' st' => match popE st.length st' ρ ρ', popS st st' with
    | some ρ2, some st2 => .nx ρ2 st2
    | _, _ => .bad
  | r => r
section
variable {X : Cx} {T : Tb} {W : WX} {a b : List Stmt} {da db : DenS}
theorem pssx_popB (h : PSsX X T W a da) : PSsX X T W a (popB da) := pss_imp h fun D σ H ⟨M, ρ, st, s, e, h⟩ => ⟨M, ρ, st, s, e, by
  unfold popB at h
  cases q : da ρ st with
  | nx ρ' st' =>
    rw [q] at h
    dsimp only at h
    cases q1 : popE st.length st' ρ ρ' with
    | none => rw [q1] at h; exact h.elim
    | some ρ2 =>
      cases q2 : popS st st' with
      | none => rw [q1, q2] at h; exact h.elim
      | some st2 =>
        rw [q1, q2] at h
        intro M' σ' H' s' x e'
        obtain ⟨p1, p2⟩ := pop_sok s s' x q2
        exact h M σ' H' p1 p2 (pop_eok s e s' x e' q1)
  | rt d st' => rw [q] at h; exact h
  | bk ρ' st' => rw [q] at h; exact h
  | ct ρ' st' => rw [q] at h; exact h
  | exc c fs ρ' st' => rw [q] at h; exact h
  | bad => rw [q] at h; exact h⟩
/-- the first n statements, then the others -/
theorem pssx_cut (n : Nat) {ss : List Stmt} (h1 : PSsX X T W (ss.take n) da) (h2 : PSsX X T W (ss.drop n) db) : PSsX X T W ss (dSeq da db) := by
  have := pss_imp (t' := tS T W (dSeq da db)) (pss_app h1 h2) fun D σ H ⟨M, ρ, st, s, e, h⟩ => ⟨M, ρ, st, s, e, PostS.seq h⟩
  rwa [List.take_append_drop] at this
end
end FV

set_option Elab.async false
set_option linter.all false
set_option maxRecDepth 100000
set_option maxHeartbeats 4000000
namespace FV
open PySem PySem.Spec PyProof.Rows L2
/-- one keyword-only parameter, its default None -/
theorem binds_kw1 {K : PySem.W.Frag} {fd : FuncData} {ps : List Str} {D : Addr} {kw : Str} (n : Nat) (hq : PySem.W.nsIn K D kw = some (some .none)) (hn : ps.length = n + 1) (h : ∀ us : List Value, us.length = n → KwChain D [(kw, .none)] (bindArgs fd ⟨us, []⟩) (ps.zip (us ++ [.none]))) : Binds K fd ps [.none] := fun s us X hl =>
  BindsTo.of_looks fun M => KwChain.looks X (fun q hm => by rw [List.mem_singleton.mp hm]; exact hq) (h us (by rw [List.length_append, hn] at hl; simpa using hl))
end FV

set_option Elab.async false
set_option linter.all false
set_option maxRecDepth 100000
set_option maxHeartbeats 4000000
namespace FV
open PySem PySem.Spec PyProof.Rows L2

/-! ### evaluation, step by step -/
section
variable {α : Type} {ρ : DEnv} {st : DSto} {a b c d : Den} {t u : DenT} {s s1 : DenS} {es fs : DenA} {G : FnD} {n N i j k : Nat} {f g : OpD} {ds : List D} {x y : D} {di : DenI} {tg : DenG} {sf : SetD} {ol : OpL}
@[simp] theorem dSeq_ap : dSeq s s1 ρ st = (s ρ st).andThen s1 := id rfl
@[simp] theorem dSkip_ap : dSkip ρ st = .nx ρ st := id rfl
@[simp] theorem dBreak_ap : dBreak ρ st = .bk ρ st := id rfl
@[simp] theorem dCont_ap : dCont ρ st = .ct ρ st := id rfl
@[simp] theorem dExpr_ap : dExpr d ρ st = (d ρ st).toS ρ fun _ st => .nx ρ st := id rfl
@[simp] theorem dRet_ap : dRet d ρ st = (d ρ st).toS ρ fun x st => .rt x st := id rfl
@[simp] theorem dRetN_ap : dRetN ρ st = .rt .non st := id rfl
@[simp] theorem dIfS_ap : dIfS t s s1 ρ st = (t ρ st).toS ρ fun k st => if k = true then s ρ st else s1 ρ st := id rfl
@[simp] theorem dAsg_ap : dAsg i d ρ st = (d ρ st).toS ρ fun x st => .nx (ρ.set i (some x)) st := id rfl
@[simp] theorem dAsgG_ap : dAsgG d tg ρ st = (d ρ st).toS ρ fun x st => match tg x ρ st with
  | some (ρ', st') => .nx ρ' st'
  | none => .bad := id rfl
@[simp] theorem gdName_ap : gdName i x ρ st = some (ρ.set i (some x), st) := id rfl
@[simp] theorem gdSub_ap : gdSub a b sf x ρ st = match a ρ st with
  | .ok x1 st1 => match b ρ st1 with
    | .ok y st2 => match sf x1 y x st2 with
      | some st3 => some (ρ, st3)
      | none => none
    | _ => none
  | _ => none := id rfl
@[simp] theorem dAug_ap : dAug i d f ρ st = match ρ[i]? with
  | some (some x) => (d ρ st).toS ρ fun y st => match f x y st with
    | some (z, st) => .nx (ρ.set i (some z)) st
    | none => .bad
  | _ => .bad := id rfl
@[simp] theorem dFor_ap {pop : Bool} {ws : List Nat} : dFor pop ws di tg s ρ st = (di ρ st).toS ρ fun p st => forL pop ws p.2 tg s p.1 (wipeE ρ ws) st := id rfl
@[simp] theorem dWhile_ap {pop : Bool} {ws : List Nat} : dWhile n pop ws t s ρ st = whileL pop ws t s n (wipeE ρ ws) st := id rfl
@[simp] theorem dVar_ap : dVar i ρ st = match ρ[i]? with
  | some (some d) => .ok d st
  | _ => .bad := id rfl
@[simp] theorem dC_ap : dC x ρ st = .ok x st := id rfl
@[simp] theorem dOp_ap : dOp f a b ρ st = (a ρ st).bind fun x st => (b ρ st).bind fun y st => ofO (f x y st) := id rfl
@[simp] theorem dB_ap : dB d ρ st = (d ρ st).bind fun x st => match x with
  | .bl b => .ok b st
  | _ => .bad := id rfl
@[simp] theorem dChain_ap : dChain f g a b c ρ st = (a ρ st).bind fun x st => (b ρ st).bind fun y st => (ofO (f x y st)).bind fun k st => match k with
  | .bl true => (c ρ st).bind fun z st => ofO (g y z st)
  | .bl false => .ok (.bl false) st
  | _ => .bad := id rfl
@[simp] theorem ofO_some : ofO (some (x, st)) = .ok x st := id rfl
@[simp] theorem ofO_none : ofO (none : Option (α × DSto)) = .bad := id rfl
@[simp] theorem dAnd_ap : dAnd t u ρ st = (t ρ st).bind fun x st => if x = true then u ρ st else .ok false st := id rfl
@[simp] theorem dOr_ap : dOr t u ρ st = (t ρ st).bind fun x st => if x = true then .ok true st else u ρ st := id rfl
@[simp] theorem dNot_ap : dNot t ρ st = (t ρ st).bind fun x st => .ok (!x) st := id rfl
@[simp] theorem dIf_ap : dIf t a b ρ st = (t ρ st).bind fun x st => if x = true then a ρ st else b ρ st := id rfl
@[simp] theorem dAndV_ap : dAndV a b ρ st = (a ρ st).bind fun x st => match x with
  | .bl true => b ρ st
  | .bl false => .ok (.bl false) st
  | _ => .bad := id rfl
@[simp] theorem dOrV_ap : dOrV a b ρ st = (a ρ st).bind fun x st => match x with
  | .bl true => .ok (.bl true) st
  | .bl false => b ρ st
  | _ => .bad := id rfl
@[simp] theorem dNotV_ap : dNotV a ρ st = (a ρ st).bind fun x st => match x with
  | .bl b => .ok (.bl (!b)) st
  | _ => .bad := id rfl
@[simp] theorem dNil_ap : dNil ρ st = .ok [] st := id rfl
@[simp] theorem dCons_ap : dCons a es ρ st = (a ρ st).bind fun x st => (es ρ st).bind fun xs st => .ok (x :: xs) st := id rfl
@[simp] theorem dStar_ap : dStar a es ρ st = (a ρ st).bind fun x st => match itemsD x st with
  | some ys => (es ρ st).bind fun xs st => .ok (ys ++ xs) st
  | none => .bad := id rfl
@[simp] theorem dTup_ap : dTup es ρ st = (es ρ st).bind mkTup := id rfl
@[simp] theorem dLst_ap : dLst es ρ st = (es ρ st).bind mkLst := id rfl
@[simp] theorem dLstV_ap : dLstV es ρ st = (es ρ st).bind mkLstV := id rfl
@[simp] theorem dMakeV_ap : dMakeV n G es ρ st = (es ρ st).bind fun ds st => mkObjV n G ds st := id rfl
@[simp] theorem dCall_ap : dCall G es ρ st = (es ρ st).bind G := id rfl
@[simp] theorem dMake_ap : dMake n G es ρ st = (es ρ st).bind fun ds st => mkObj n G ds st := id rfl
@[simp] theorem dMeth_ap : dMeth n G a es ρ st = (a ρ st).bind fun x st => if isIns n x st = true then (es ρ st).bind fun ds st => G (x :: ds) st else .bad := id rfl
@[simp] theorem dProp_ap : dProp n G a ρ st = (a ρ st).bind fun x st => if isIns n x st = true then (match G [x] st with
  | .ok d st => .ok d st
  | _ => .bad) else .bad := id rfl
@[simp] theorem dFld_ap : dFld i a ρ st = (a ρ st).bind (fldD i) := id rfl
@[simp] theorem dSetF_ap : dSetF n i a d ρ st = (d ρ st).toS ρ fun y st => (a ρ st).toS ρ fun x st => match setFld n i x y st with
  | some st => .nx ρ st
  | none => .bad := id rfl
@[simp] theorem dB'_ap : dB' ol es ρ st = (es ρ st).bind fun ds st => ofO (ol ds st) := id rfl
@[simp] theorem dApp_ap : dApp a b ρ st = (a ρ st).bind fun x st => match x with
  | .ref n => match st[n]? with
    | some (.lst _) => (b ρ st).bind fun y st => match st[n]? with
      | some (.lst xs) => if xs.length < sizeLine then .ok .non (st.set n (.lst (xs ++ [y]))) else .bad
      | _ => .bad
    | _ => .bad
  | _ => .bad := id rfl
@[simp] theorem dJoin_ap : dJoin a b ρ st = (a ρ st).bind fun x st => match x with
  | .str z => (b ρ st).bind fun y st => ofO (joinO (.str z) y st)
  | _ => .bad := id rfl
@[simp] theorem dPart_none : dPart none ρ st = .ok none st := id rfl
@[simp] theorem dPart_some : dPart (some d) ρ st = (d ρ st).bind fun x st => match x with
    | .int i => .ok (some i) st
    | _ => .bad := id rfl
@[simp] theorem dSl_ap {lo hi : Option Den} : dSl d lo hi ρ st = (d ρ st).bind fun x st => (dPart lo ρ st).bind fun l st => (dPart hi ρ st).bind fun h st => ofO (slO x l h st) := id rfl
@[simp] theorem dISeq_ap : dISeq d ρ st = (d ρ st).bind fun x st => match x with
  | .tup xs => .ok (xs, []) st
  | .lst xs => .ok (xs, []) st
  | .ref n => match st[n]? with
    | some (.lst xs) => .ok (xs, [(n, .lst xs)]) st
    | _ => .bad
  | .scr ns => .ok (ns.map D.int, []) st
  | _ => .bad := id rfl
/-- the numbers that a range counts -/
def rngO (x y : D) (st : DSto) : DRes (List D × Chk) := match x, y with
  | .int i, .int j => if -(2 ^ 62) ≤ i ∧ i < 2 ^ 62 ∧ -(2 ^ 62) ≤ j ∧ j < 2 ^ 62 then .ok (rngD i (j - i).toNat, []) st else .bad
  | _, _ => .bad
@[simp] theorem dIRng1_ap : dIRng1 d ρ st = (d ρ st).bind fun x st => rngO (.int 0) x st := by
  show (d ρ st).bind _ = _
  congr 1
  funext x st
  unfold rngO
  cases x with
  | int j =>
    dsimp only
    by_cases h : -(2 ^ 62) ≤ j ∧ j < 2 ^ 62
    · rw [if_pos h, if_pos ⟨by decide, by decide, h⟩, Int.sub_zero]
    · rw [if_neg h, if_neg fun z => h z.2.2]
  | _ => rfl
@[simp] theorem dIRng2_ap : dIRng2 a b ρ st = (a ρ st).bind fun x st => (b ρ st).bind fun y st => rngO x y st := id rfl
theorem rngO_nat {i j : Int} (h0 : -1000000 ≤ i) (h1 : i ≤ 1000000000) (h2 : -1000000 ≤ j) (h3 : j ≤ 1000000000) : rngO (.int i) (.int j) st = .ok (rngD i (j - i).toNat, []) st :=
  if_pos ⟨by omega, by omega, by omega, by omega⟩
theorem rngD_eq (n : Nat) : rngD 0 n = (List.range n).map fun k : Nat => D.int (k : Int) := by
  apply List.ext_getElem?
  intro i
  by_cases h : i < n
  · rw [rngD_get n 0 i h]; simp [h]
  · rw [List.getElem?_eq_none (by rw [rngD_len]; omega), List.getElem?_eq_none (by simp; omega)]
/-- range(n) -/
theorem rngO_0 {n : Nat} (h : n ≤ 1000000) : rngO (.int 0) (.int (n : Int)) st = .ok ((List.range n).map fun k : Nat => D.int (k : Int), []) st := by
  rw [rngO_nat (by decide) (by decide) (by omega) (by omega), Int.sub_zero, Int.toNat_natCast, rngD_eq]
@[simp] theorem dIOwn_ap : dIOwn n i d ρ st = (d ρ st).bind fun x st => if isIns n x st = true then (match fldD i x st with
  | .ok y st => match iterL y st with
    | some p => .ok p st
    | none => .bad
  | _ => .bad) else .bad := id rfl
@[simp] theorem dIsTy_ap {ty : String} : dIsTy ty d ρ st = (d ρ st).bind fun x st => match tyName x st with
  | some a => match kitB a ty with
    | some b => .ok (.bl b) st
    | none => .bad
  | none => .bad := id rfl
@[simp] theorem dIsC_ap {b : Bool} : dIsC n b d ρ st = (d ρ st).bind fun x st => if isIns n x st = true then .ok (.bl b) st else .bad := id rfl
@[simp] theorem dLcB_ap {v : Bool} {vs : List Nat} {step : DEnv → List D → DSto → Option (List D × DSto)} : dLcB v di vs tg step ρ st = (di ρ st).bind fun p st1 => match compL p.2 vs tg step ρ p.1 [] st1 with
  | some (xs, st') => lcEnd v xs st'
  | none => .bad := id rfl
@[simp] theorem lcEnd_t {xs : List D} : lcEnd true xs st = .ok (.lst xs) st := id rfl
@[simp] theorem lcEnd_f {xs : List D} : lcEnd false xs st = .ok (.ref st.length) (st ++ [.lst xs]) := id rfl
@[simp] theorem wipeE_nil {ρ : DEnv} : wipeE ρ [] = ρ := id rfl
@[simp] theorem wipeE_cons {ρ : DEnv} {v : Nat} {vs : List Nat} : wipeE ρ (v :: vs) = (wipeE ρ vs).set v none := id rfl
@[simp] theorem chkB_nil {st : DSto} : chkB [] st = true := id rfl
@[simp] theorem chkB_cons {st : DSto} {p : Nat × DObj} {c : Chk} : chkB (p :: c) st = (decide (st[p.1]? = some p.2) && chkB c st) := id rfl
@[simp] theorem stepE_ap {t : DenT} {e : Den} {ρ : DEnv} {acc : List D} {st : DSto} : stepE t e ρ acc st = match t ρ st with
  | .ok true st2 => match e ρ st2 with
    | .ok y st3 => if acc.length < sizeLine then some (acc ++ [y], st3) else none
    | _ => none
  | .ok false st2 => some (acc, st2)
  | _ => none := id rfl
@[simp] theorem stepC_ap {t : DenT} {di : DenI} {vs : List Nat} {g : DenG} {step : DEnv → List D → DSto → Option (List D × DSto)} {ρ : DEnv} {acc : List D} {st : DSto} : stepC t di vs g step ρ acc st = match t ρ st with
  | .ok true st2 => match di ρ st2 with
    | .ok (src, chk) st3 => compL chk vs g step ρ src acc st3
    | _ => none
  | .ok false st2 => some (acc, st2)
  | _ => none := id rfl
@[simp] theorem turnE_f {ws : List Nat} {ρ ρ2 : DEnv} {st st2 : DSto} : turnE false ws ρ st ρ2 st2 = some (wipeE ρ2 ws, st2) := id rfl
@[simp] theorem dSetF_ap' {od ed : Den} {c i : Nat} {ρ : DEnv} {st : DSto} : dSetF c i od ed ρ st = (ed ρ st).toS ρ fun y st => (od ρ st).toS ρ fun x st => match setFld c i x y st with
  | some st => .nx ρ st
  | none => .bad := id rfl
@[simp] theorem dYes_ap : dYes ρ st = .ok true st := id rfl
theorem bodyF_ap (h : ds.length = n) : bodyF n N s ds st = match s (ds.map some ++ List.replicate (N - ds.length) none) st with
  | .nx _ st' => .ok .non st'
  | .rt d st' => .ok d st'
  | .exc c fs _ st' => .exc c fs st'
  | _ => .bad := if_pos h
end

/-! ### lists by place -/
theorem atI_nat {α : Type} (xs : List α) (n : Nat) : atI xs (n : Int) = xs[n]? := by
  unfold atI ixN
  by_cases h : n < xs.length
  · rw [if_pos (by omega), if_pos (by omega)]; simp
  · rw [if_pos (by omega), if_neg (by omega)]; simp [List.getElem?_eq_none (by omega : xs.length ≤ n)]
@[simp] theorem atI_0 {α : Type} (xs : List α) : atI xs 0 = xs[0]? := atI_nat xs 0
@[simp] theorem atI_1 {α : Type} (xs : List α) : atI xs 1 = xs[1]? := atI_nat xs 1
@[simp] theorem atI_2 {α : Type} (xs : List α) : atI xs 2 = xs[2]? := atI_nat xs 2
@[simp] theorem atI_3 {α : Type} (xs : List α) : atI xs 3 = xs[3]? := atI_nat xs 3
@[simp] theorem atI_4 {α : Type} (xs : List α) : atI xs 4 = xs[4]? := atI_nat xs 4
theorem ixN_nat {n k : Nat} (h : k < n) : ixN n (k : Int) = some k := by
  unfold ixN; rw [if_pos (by omega), if_pos (by omega)]; simp
theorem atI_in {α : Type} {xs : List α} {i : Int} (h0 : 0 ≤ i) (h1 : i < xs.length) : ∃ x, atI xs i = some x ∧ x ∈ xs := by
  obtain ⟨n, rfl⟩ := Int.eq_ofNat_of_zero_le h0
  have hn : n < xs.length := by omega
  exact ⟨xs[n], by show atI xs (n : Int) = _; rw [atI_nat, List.getElem?_eq_getElem hn], List.getElem_mem hn⟩
@[simp] theorem kitB_bool : kitB "bool" "bool" = some true := by decide +kernel

@[simp] theorem reify_int (st : DSto) (i : Int) : reify st (.int i) = some (.int i) := id rfl
@[simp] theorem reify_bl (st : DSto) (i : Bool) : reify st (.bl i) = some (.bool i) := id rfl
@[simp] theorem reify_str (st : DSto) (i : Str) : reify st (.str i) = some (.str i) := id rfl
@[simp] theorem reify_non (st : DSto) : reify st .non = some .none := id rfl
@[simp] theorem shaped_int (i : Int) : SeqAt.shaped (.int i) = true := id rfl
@[simp] theorem shaped_bl (i : Bool) : SeqAt.shaped (.bool i) = true := id rfl
@[simp] theorem shaped_non : SeqAt.shaped .none = true := id rfl
@[simp] theorem eqO_int (st : DSto) (i j : Int) : eqO (.int i) (.int j) st = some (.bl (i == j), st) := id rfl
@[simp] theorem neO_int (st : DSto) (i j : Int) : neO (.int i) (.int j) st = some (.bl (!(i == j)), st) := id rfl
@[simp] theorem eqO_bl (st : DSto) (i j : Bool) : eqO (.bl i) (.bl j) st = some (.bl (i == j), st) := id rfl
@[simp] theorem neO_bl (st : DSto) (i j : Bool) : neO (.bl i) (.bl j) st = some (.bl (!(i == j)), st) := id rfl
@[simp] theorem addO_int (st : DSto) (i j : Int) : addO (.int i) (.int j) st = some (.int (i + j), st) := id rfl
@[simp] theorem subO_int (st : DSto) (i j : Int) : subO (.int i) (.int j) st = some (.int (i - j), st) := id rfl
@[simp] theorem iaddO_int (st : DSto) (i j : Int) : iaddO (.int i) (.int j) st = some (.int (i + j), st) := id rfl
@[simp] theorem cmpI_int (f : Int → Int → Bool) (st : DSto) (i j : Int) : cmpI f (.int i) (.int j) st = some (.bl (f i j), st) := id rfl
theorem addO_str (st : DSto) {a b : Str} (h : a.length + b.length ≤ sizeLine) : addO (.str a) (.str b) st = some (.str (a ++ b), st) := by
  unfold addO
  dsimp only
  rw [if_pos h]
theorem mulO_int (st : DSto) (i j : Int) : mulO (.int i) (.int j) st = if (-(2 ^ 64) < i ∧ i < 2 ^ 64) ∨ (-(2 ^ 64) < j ∧ j < 2 ^ 64) then some (.int (i * j), st) else none := rfl
theorem modO_int (st : DSto) {i j : Int} (h : 0 < j) : modO (.int i) (.int j) st = some (.int (i % j), st) := if_pos h
theorem fdivO_int (st : DSto) {i j : Int} (h : 0 < j) (h1 : j < 1073741824) : fdivO (.int i) (.int j) st = some (.int (i / j), st) := if_pos ⟨h, h1⟩
@[simp] theorem intO_int (st : DSto) (i : Int) : intO [.int i] st = some (.int i, st) := id rfl

theorem szl : sizeLine = 16777216 := rfl
/-! ### subscripts, lengths, in -/
section
variable {st : DSto} {xs ys : List D} {x y : D} {i : Int} {n : Nat} {s : Str}
@[simp] theorem ixO_lst : ixO (.lst xs) (.int i) st = (atI xs i).map fun v => (v, st) := id rfl
@[simp] theorem ixO_tup : ixO (.tup xs) (.int i) st = (atI xs i).map fun v => (v, st) := id rfl
theorem ixO_str : ixO (.str s) y st = ixS (.str s) y st := id rfl
theorem ixO_ref (h : st[n]? = some (.lst xs)) : ixO (.ref n) (.int i) st = (atI xs i).map fun v => (v, st) := by
  simp only [ixO, dctD, h, ixS, itemsD, Option.bind_some]
@[simp] theorem lenO_lst : lenO [.lst xs] st = some (.int xs.length, st) := id rfl
@[simp] theorem lenO_tup : lenO [.tup xs] st = some (.int xs.length, st) := id rfl
theorem lenO_ref (h : st[n]? = some (.lst xs)) : lenO [.ref n] st = some (.int xs.length, st) := by
  simp [lenO, dctD, h, lenS, itemsD]
@[simp] theorem listO_lst : listO [.lst xs] st = some (.lst xs, st) := id rfl
@[simp] theorem listO_tup : listO [.tup xs] st = some (.lst xs, st) := id rfl
theorem listO_ref (h : st[n]? = some (.lst xs)) : listO [.ref n] st = some (.lst xs, st) := by simp [listO, itemsD, h]
@[simp] theorem listR_lst : listR [.lst xs] st = some (.ref st.length, st ++ [.lst xs]) := id rfl
@[simp] theorem listR_tup : listR [.tup xs] st = some (.ref st.length, st ++ [.lst xs]) := id rfl
@[simp] theorem tupleO_lst : tupleO [.lst xs] st = some (.tup xs, st) := id rfl
@[simp] theorem tupleO_tup : tupleO [.tup xs] st = some (.tup xs, st) := id rfl
theorem tupleO_ref (h : st[n]? = some (.lst xs)) : tupleO [.ref n] st = some (.tup xs, st) := by simp [tupleO, itemsD, h]
@[simp] theorem itemsD_lst : itemsD (.lst xs) st = some xs := id rfl
@[simp] theorem itemsD_tup : itemsD (.tup xs) st = some xs := id rfl
theorem itemsD_ref (h : st[n]? = some (.lst xs)) : itemsD (.ref n) st = some xs := by simp [itemsD, h]
@[simp] theorem lstD_lst : lstD (.lst xs) st = some xs := id rfl
theorem lstD_ref (h : st[n]? = some (.lst xs)) : lstD (.ref n) st = some xs := by simp [lstD, h]
theorem addO_lst (h : xs.length + ys.length ≤ sizeLine) : addO (.lst xs) (.lst ys) st = some (.lst (xs ++ ys), st) := by simp [addO, h]
theorem addO_tup (h : xs.length + ys.length ≤ sizeLine) : addO (.tup xs) (.tup ys) st = some (.tup (xs ++ ys), st) := by simp [addO, h]
@[simp] theorem slO_lst {lo hi : Option Int} : slO (.lst xs) lo hi st = some (.lst (cutD xs lo hi), st) := id rfl
@[simp] theorem slO_tup {lo hi : Option Int} : slO (.tup xs) lo hi st = some (.tup (cutD xs lo hi), st) := id rfl
@[simp] theorem slO_scr {lo hi : Option Int} {ns : List Int} : slO (.scr ns) lo hi st = some (.lst (cutD (ns.map D.int) lo hi), st) := id rfl
@[simp] theorem sumO_lst : sumO [.lst xs] st = (intsD xs).map fun ns => (.int ns.sum, st) := id rfl
@[simp] theorem allO_lst : allO [.lst xs] st = (blsD xs).map fun ns => (.bl (ns.all id), st) := id rfl
@[simp] theorem anyO_lst : anyO [.lst xs] st = (blsD xs).map fun ns => (.bl (ns.any id), st) := id rfl
@[simp] theorem insD_ins {c : Nat} {fs : List (Nat × D)} : insD (.ins c fs) st = some (c, fs) := id rfl
theorem insD_ref {c : Nat} {fs : List (Nat × D)} (h : st[n]? = some (.ins c fs)) : insD (.ref n) st = some (c, fs) := by simp [insD, h]
@[simp] theorem isIns_ins {c k : Nat} {fs : List (Nat × D)} : isIns k (.ins c fs) st = decide (c = k) := id rfl
theorem isIns_ref {c k : Nat} {fs : List (Nat × D)} (h : st[n]? = some (.ins c fs)) : isIns k (.ref n) st = decide (c = k) := by simp [isIns, insD, h]
@[simp] theorem fldD_ins {c k : Nat} {fs : List (Nat × D)} : fldD k (.ins c fs) st = match getN k fs with | some y => .ok y st | none => .bad := id rfl
theorem fldD_ref {c k : Nat} {fs : List (Nat × D)} (h : st[n]? = some (.ins c fs)) : fldD k (.ref n) st = match getN k fs with | some y => .ok y st | none => .bad := by
  unfold fldD insD
  dsimp only
  rw [h] <;> rfl
@[simp] theorem getN_cons {k j : Nat} {v : D} {fs : List (Nat × D)} : getN k ((j, v) :: fs) = if j = k then some v else getN k fs := id rfl
@[simp] theorem putN_nil {k : Nat} {v : D} : putN k v [] = [(k, v)] := id rfl
@[simp] theorem putN_cons {k j : Nat} {v x : D} {fs : List (Nat × D)} : putN k v ((j, x) :: fs) = if j = k then (j, v) :: fs else (j, x) :: putN k v fs := id rfl
@[simp] theorem iterL_lst : iterL (.lst xs) st = some (xs, []) := id rfl
theorem mkTup_ok (h : xs.length ≤ sizeLine) : mkTup xs st = .ok (.tup xs) st := if_pos h
theorem mkLstV_ok (h : xs.length ≤ sizeLine) : mkLstV xs st = .ok (.lst xs) st := if_pos h
theorem mkLst_ok (h : xs.length ≤ sizeLine) : mkLst xs st = .ok (.ref st.length) (st ++ [.lst xs]) := if_pos h
theorem s0 : 0 ≤ sizeLine := by decide
theorem s1 : 1 ≤ sizeLine := by decide
theorem s2 : 2 ≤ sizeLine := by decide
theorem s3 : 3 ≤ sizeLine := by decide
theorem s4 : 4 ≤ sizeLine := by decide
theorem s5 : 5 ≤ sizeLine := by decide
@[simp] theorem mkTup_0 : mkTup [] st = .ok (.tup []) st := if_pos s0
@[simp] theorem mkTup_1 {a : D} : mkTup [a] st = .ok (.tup [a]) st := if_pos (show [a].length ≤ sizeLine from s1)
@[simp] theorem mkTup_2 {a b : D} : mkTup [a, b] st = .ok (.tup [a, b]) st := if_pos (show [a, b].length ≤ sizeLine from s2)
@[simp] theorem mkTup_3 {a b c : D} : mkTup [a, b, c] st = .ok (.tup [a, b, c]) st := if_pos (show [a, b, c].length ≤ sizeLine from s3)
@[simp] theorem mkTup_4 {a b c d : D} : mkTup [a, b, c, d] st = .ok (.tup [a, b, c, d]) st := if_pos (show [a, b, c, d].length ≤ sizeLine from s4)
@[simp] theorem mkLstV_0 : mkLstV [] st = .ok (.lst []) st := if_pos s0
@[simp] theorem mkLstV_1 {a : D} : mkLstV [a] st = .ok (.lst [a]) st := if_pos (show [a].length ≤ sizeLine from s1)
@[simp] theorem mkLstV_2 {a b : D} : mkLstV [a, b] st = .ok (.lst [a, b]) st := if_pos (show [a, b].length ≤ sizeLine from s2)
@[simp] theorem mkLstV_3 {a b c : D} : mkLstV [a, b, c] st = .ok (.lst [a, b, c]) st := if_pos (show [a, b, c].length ≤ sizeLine from s3)
@[simp] theorem mkLstV_4 {a b c d : D} : mkLstV [a, b, c, d] st = .ok (.lst [a, b, c, d]) st := if_pos (show [a, b, c, d].length ≤ sizeLine from s4)
@[simp] theorem mkLst_0 : mkLst [] st = .ok (.ref st.length) (st ++ [.lst []]) := if_pos s0
@[simp] theorem mkLst_1 {a : D} : mkLst [a] st = .ok (.ref st.length) (st ++ [.lst [a]]) := if_pos (show [a].length ≤ sizeLine from s1)
@[simp] theorem mkLst_5 {a b c d e : D} : mkLst [a, b, c, d, e] st = .ok (.ref st.length) (st ++ [.lst [a, b, c, d, e]]) := if_pos (show [a, b, c, d, e].length ≤ sizeLine from s5)
end
/-! ### comprehensions, loops -/
section
variable {α β : Type} {c : Chk} {vs : List Nat} {g : DenG} {step : DEnv → List D → DSto → Option (List D × DSto)} {ρ : DEnv} {st : DSto}
theorem compL_nil {acc : List D} : compL c vs g step ρ [] acc st = if chkB c st = true then some (acc, st) else none := by unfold compL; rfl
theorem compL_cons {x : D} {xs acc : List D} : compL c vs g step ρ (x :: xs) acc st = if chkB c st = true then (match g x (wipeE ρ vs) st with
      | none => none
      | some (ρ1, st1) => match step ρ1 acc st1 with
        | none => none
        | some (acc2, st2) => compL c vs g step ρ xs acc2 st2) else none := by rw [compL] <;> rfl
/-- a comprehension over known items that leaves the store as it is; f: what each adds -/
theorem compL_add (f : α → D) (h : α → List D) (hc : chkB c st = true) : ∀ (l : List α) (acc : List D),
    (∀ x ∈ l, ∀ acc, acc.length < sizeLine → ∃ ρ1, g (f x) (wipeE ρ vs) st = some (ρ1, st) ∧ step ρ1 acc st = some (acc ++ h x, st)) → acc.length + (l.flatMap h).length < sizeLine → compL c vs g step ρ (l.map f) acc st = some (acc ++ l.flatMap h, st)
  | [], acc, _, _ => by rw [List.map_nil, compL_nil, if_pos hc]; simp
  | x :: l, acc, hh, hl => by
    simp only [List.flatMap_cons, List.length_append] at hl
    obtain ⟨ρ1, e1, e2⟩ := hh x (List.mem_cons_self ..) acc (by omega)
    rw [List.map_cons, compL_cons, if_pos hc, e1]
    dsimp only
    rw [e2]
    dsimp only
    rw [compL_add f h hc l _ (fun y hy => hh y (List.mem_cons_of_mem _ hy)) (by rw [List.length_append]; omega)]
    simp
theorem flatMap_one (k : α → D) (l : List α) : l.flatMap (fun x => [k x]) = l.map k := by
  induction l with
  | nil => rfl
  | cons a l ih => rw [List.flatMap_cons, ih]; rfl
theorem flatMap_if (p : α → Bool) (k : α → D) (l : List α) : l.flatMap (fun x => if p x then [k x] else []) = (l.filter p).map k := by
  induction l with
  | nil => rfl
  | cons a l ih =>
    rw [List.flatMap_cons, ih, List.filter_cons]
    cases p a <;> rfl
/-- [e(x) for x in l] -/
theorem compL_mapE (f k : α → D) (hc : chkB c st = true) (l : List α) (hl : l.length < sizeLine)
    (h : ∀ x ∈ l, ∀ acc : List D, acc.length < sizeLine → ∃ ρ1, g (f x) (wipeE ρ vs) st = some (ρ1, st) ∧ step ρ1 acc st = some (acc ++ [k x], st)) : compL c vs g step ρ (l.map f) [] st = some (l.map k, st) := by
  rw [compL_add f (fun x => [k x]) hc l [] h (by rw [flatMap_one]; simpa using hl), flatMap_one]
  rfl
/-- [e(x) for x in l if p(x)] -/
theorem compL_filterE (f k : α → D) (p : α → Bool) (hc : chkB c st = true) (l : List α) (hl : l.length < sizeLine)
    (h : ∀ x ∈ l, ∀ acc : List D, acc.length < sizeLine → ∃ ρ1, g (f x) (wipeE ρ vs) st = some (ρ1, st) ∧ step ρ1 acc st = some (acc ++ (if p x then [k x] else []), st)) : compL c vs g step ρ (l.map f) [] st = some ((l.filter p).map k, st) := by
  rw [compL_add f (fun x => if p x then [k x] else []) hc l [] h (by
    rw [flatMap_if, List.length_map]
    have := List.length_filter_le p l
    simp only [List.length_nil]
    omega), flatMap_if]
  rfl
/-- .. with an invariant of what was done -/
theorem compL_inv (f : α → D) (I : List α → List D → DSto → Prop) : ∀ (l pre : List α) (acc : List D) (st : DSto), I pre acc st → (∀ pre acc st, I pre acc st → chkB c st = true) →
    (∀ p x q acc st, pre ++ l = p ++ x :: q → I p acc st → ∃ ρ1 st1 acc' st', g (f x) (wipeE ρ vs) st = some (ρ1, st1) ∧ step ρ1 acc st1 = some (acc', st') ∧ I (p ++ [x]) acc' st') → ∃ acc' st', compL c vs g step ρ (l.map f) acc st = some (acc', st') ∧ I (pre ++ l) acc' st'
  | [], pre, acc, st, i, hc, _ => ⟨acc, st, by rw [List.map_nil, compL_nil, if_pos (hc _ _ _ i)], by simpa using i⟩
  | x :: l, pre, acc, st, i, hc, h => by
    obtain ⟨ρ1, st1, acc', st', e1, e2, i'⟩ := h pre x l acc st rfl i
    obtain ⟨a2, st2, e3, i2⟩ := compL_inv f I l (pre ++ [x]) acc' st' i' hc (fun p y q acc st e => h p y q acc st (by simpa using e))
    refine ⟨a2, st2, ?_, by simpa using i2⟩
    rw [List.map_cons, compL_cons, if_pos (hc _ _ _ i), e1]
    dsimp only
    rw [e2]
    exact e3
variable {pop : Bool} {ws : List Nat} {b : DenS}
theorem forL_nil : forL pop ws c g b [] ρ st = if chkB c st = true then .nx ρ st else .bad := by rw [forL]
theorem forL_cons {x : D} {xs : List D} : forL pop ws c g b (x :: xs) ρ st = if chkB c st = true then (match g x ρ st with
      | none => .bad
      | some (ρ1, st1) => match b ρ1 st1 with
        | .nx ρ2 st2 => match turnE pop ws ρ st ρ2 st2 with
          | some (ρ3, st3) => forL pop ws c g b xs ρ3 st3
          | none => .bad
        | .ct ρ2 st2 => match turnE pop ws ρ st ρ2 st2 with
          | some (ρ3, st3) => forL pop ws c g b xs ρ3 st3
          | none => .bad
        | .bk ρ2 st2 => match turnE pop ws ρ st ρ2 st2 with
          | some (ρ3, st3) => .nx ρ3 st3
          | none => .bad
        | .rt d st2 => .rt d st2
        | .exc c fs ρ2 st2 => .exc c fs ρ2 st2
        | .bad => .bad) else .bad := by rw [forL] <;> rfl
/-- one turn that goes on -/
def Turns (pop : Bool) (ws : List Nat) (g : DenG) (b : DenS) (x : D) (ρ : DEnv) (st : DSto) (ρ' : DEnv) (st' : DSto) : Prop :=
  ∃ ρ1 st1 ρ2 st2, g x ρ st = some (ρ1, st1) ∧ (b ρ1 st1 = .nx ρ2 st2 ∨ b ρ1 st1 = .ct ρ2 st2) ∧ turnE pop ws ρ st ρ2 st2 = some (ρ', st')
/-- one turn that leaves the loop's def -/
def Leaves (g : DenG) (b : DenS) (x : D) (ρ : DEnv) (st : DSto) (r : DStm) : Prop :=
  ∃ ρ1 st1, g x ρ st = some (ρ1, st1) ∧ b ρ1 st1 = r ∧ ((∃ d st', r = .rt d st') ∨ ∃ k fs ρ' st', r = .exc k fs ρ' st')
/-- a loop with an invariant, that may be left -/
theorem forL_run (f : α → D) (I : List α → DEnv → DSto → Prop) (R : DStm → Prop) : ∀ (l pre : List α) (ρ : DEnv) (st : DSto), I pre ρ st → (∀ pre ρ st, I pre ρ st → chkB c st = true) →
    (∀ p x q ρ st, pre ++ l = p ++ x :: q → I p ρ st → (∃ ρ' st', Turns pop ws g b (f x) ρ st ρ' st' ∧ I (p ++ [x]) ρ' st') ∨ ∃ r, Leaves g b (f x) ρ st r ∧ R r) →
    (∃ ρ' st', forL pop ws c g b (l.map f) ρ st = .nx ρ' st' ∧ I (pre ++ l) ρ' st') ∨ R (forL pop ws c g b (l.map f) ρ st)
  | [], pre, ρ, st, i, hc, _ => .inl ⟨ρ, st, by rw [List.map_nil, forL_nil, if_pos (hc _ _ _ i)], by simpa using i⟩
  | x :: l, pre, ρ, st, i, hc, h => by
    rcases h pre x l ρ st rfl i with ⟨ρ', st', ⟨ρ1, st1, ρ2, st2, e1, e2, e3⟩, i'⟩ | ⟨r, ⟨ρ1, st1, e1, e2, e3⟩, hr⟩
    · rcases forL_run f I R l (pre ++ [x]) ρ' st' i' hc (fun p y q ρ st e => h p y q ρ st (by simpa using e)) with ⟨a2, st3, e4, i2⟩ | hr
      · refine .inl ⟨a2, st3, ?_, by simpa using i2⟩
        rw [List.map_cons, forL_cons, if_pos (hc _ _ _ i), e1]
        dsimp only
        rcases e2 with e2 | e2 <;> (rw [e2]; dsimp only; rw [e3]; exact e4)
      · refine .inr ?_
        rw [List.map_cons, forL_cons, if_pos (hc _ _ _ i), e1]
        dsimp only
        rcases e2 with e2 | e2 <;> (rw [e2]; dsimp only; rw [e3]; exact hr)
    · refine .inr ?_
      rw [List.map_cons, forL_cons, if_pos (hc _ _ _ i), e1]
      dsimp only
      rw [e2]
      rcases e3 with ⟨d, st', rfl⟩ | ⟨k, fs, ρ', st', rfl⟩ <;> exact hr
/-- .. that is not left -/
theorem forL_inv (f : α → D) (I : List α → DEnv → DSto → Prop) (l : List α) (ρ : DEnv) (st : DSto) (i : I [] ρ st) (hc : ∀ pre ρ st, I pre ρ st → chkB c st = true)
    (h : ∀ p x q ρ st, l = p ++ x :: q → I p ρ st → ∃ ρ' st', Turns pop ws g b (f x) ρ st ρ' st' ∧ I (p ++ [x]) ρ' st') : ∃ ρ' st', forL pop ws c g b (l.map f) ρ st = .nx ρ' st' ∧ I l ρ' st' := by
  rcases forL_run (c := c) f I (fun _ => False) l [] ρ st i hc (fun p x q ρ st e i => .inl (h p x q ρ st (by simpa using e) i)) with ⟨a, b, e, i⟩ | e
  · exact ⟨a, b, e, by simpa using i⟩
  · exact e.elim
/-- .. whose state is known -/
theorem forL_known (f : α → D) (E : List α → DEnv) (S : List α → DSto) (l : List α) (hc : ∀ p q, l = p ++ q → chkB c (S p) = true)
    (h : ∀ p x q, l = p ++ x :: q → Turns pop ws g b (f x) (E p) (S p) (E (p ++ [x])) (S (p ++ [x]))) : forL pop ws c g b (l.map f) (E []) (S []) = .nx (E l) (S l) := by
  obtain ⟨ρ', st', e, ⟨_, _⟩, rfl, rfl⟩ := forL_inv (c := c) (pop := pop) (ws := ws) (g := g) (b := b) f (fun p ρ st => (∃ q, l = p ++ q) ∧ ρ = E p ∧ st = S p) l (E []) (S []) ⟨⟨l, rfl⟩, rfl, rfl⟩
    (fun p ρ st ⟨⟨q, e⟩, _, e2⟩ => by rw [e2]; exact hc p q e)
    (fun p x q ρ st e ⟨_, e1, e2⟩ => ⟨_, _, by rw [e1, e2]; exact h p x q e, ⟨q, by simpa using e⟩, rfl, rfl⟩)
  exact e
end
/-! ### cut stores -/
section
variable {lo : Nat} {st st' ν r : DSto}
theorem popZ_same : ∀ (a b ν : DSto), popZ lo st' a (a ++ ν) = some a
  | [], _, _ => by simp [popZ]
  | o :: os, b, ν => by
    rw [List.cons_append, popZ, if_pos rfl, popZ_same os b ν]
    rfl
@[simp] theorem popS_self : popS st st = some st := by
  have := popZ_same (lo := st.length) (st' := st) st [] []
  rwa [List.append_nil] at this
@[simp] theorem popS_app : popS st (st ++ ν) = some st := popZ_same _ [] ν
theorem popZ_app : ∀ {a a' c : DSto}, a'.length = a.length → popZ lo st' a a' = some c → popZ lo st' (a ++ r) (a' ++ r ++ ν) = some (c ++ r)
  | [], [], c, _, h => by cases h; exact popZ_same r [] ν
  | o :: os, p :: ps, c, hl, h => by
    unfold popZ at h
    rw [List.cons_append, List.cons_append, List.cons_append, popZ]
    split at h
    · rename_i hp
      obtain ⟨d, h1, rfl⟩ := Option.map_eq_some_iff.mp h
      rw [if_pos hp, popZ_app (by simpa using hl) h1]; rfl
    · rename_i hp
      obtain ⟨q, hq, h⟩ := Option.bind_eq_some_iff.mp h
      obtain ⟨d, h1, rfl⟩ := Option.map_eq_some_iff.mp h
      rw [if_neg hp, hq, Option.bind_some, popZ_app (by simpa using hl) h1]; rfl
theorem popE_same (lo : Nat) (st' : DSto) : ∀ ρ : DEnv, popE lo st' ρ ρ = some ρ
  | [] => rfl
  | o :: os => by
    unfold popE
    rw [if_pos rfl, popE_same lo st' os]
    rfl
/-- d holds no ref -/
def Pure (d : D) : Prop := ∀ lo lk, rs lo lk d = some d
def Pures (l : List D) : Prop := ∀ lo lk, rss lo lk l = some l
theorem pure_non : Pure .non := fun _ _ => rfl
theorem pure_bl (b : Bool) : Pure (.bl b) := fun _ _ => rfl
theorem pure_int (b : Int) : Pure (.int b) := fun _ _ => rfl
theorem pure_str (b : Str) : Pure (.str b) := fun _ _ => rfl
theorem pures_nil : Pures [] := fun _ _ => rfl
theorem pures_cons {x : D} {xs : List D} (h : Pure x) (k : Pures xs) : Pures (x :: xs) := fun lo lk => by simp [rss, h lo lk, k lo lk]
theorem pure_tup {xs : List D} (h : Pures xs) : Pure (.tup xs) := fun lo lk => by simp [rs, h lo lk]
theorem pure_lst {xs : List D} (h : Pures xs) : Pure (.lst xs) := fun lo lk => by simp [rs, h lo lk]
theorem pures_map {α : Type} {f : α → D} (h : ∀ a, Pure (f a)) : ∀ l : List α, Pures (l.map f)
  | [] => pures_nil
  | a :: l => pures_cons (h a) (pures_map h l)
theorem pure_ins {c : Nat} {fs : List (Nat × D)} (h : ∀ p ∈ fs, Pure p.2) : Pure (.ins c fs) := by
  have k : ∀ {fs : List (Nat × D)}, (∀ p ∈ fs, Pure p.2) → ∀ lo lk, rsf lo lk fs = some fs := by
    intro fs
    induction fs with
    | nil => intro _ _ _; rfl
    | cons p fs ih =>
      intro h lo lk
      obtain ⟨k, x⟩ := p
      simp [rsf, h (k, x) List.mem_cons_self lo lk, ih (fun q hq => h q (List.mem_cons_of_mem _ hq)) lo lk]
  exact fun lo lk => by simp [rs, k h lo lk]
theorem fzD_pure {d : D} (h : Pure d) : fzD lo st d = some d := h _ _
theorem fzD_lst {n : Nat} {xs : List D} (hn : ¬ n < lo) (h : st[n]? = some (.lst xs)) (p : Pures xs) : fzD lo st (.ref n) = some (.lst xs) := by
  unfold fzD rs
  rw [if_neg hn]
  simp only [fzK, rlk, h, p lo _, Option.map_some]
theorem fzD_ins {n c : Nat} {fs gs : List (Nat × D)} (hn : ¬ n < lo) (h : st[n]? = some (.ins c fs)) (p : rsf lo (rlk lo st (rlk lo st (rlk lo st fun _ => none))) fs = some gs) : fzD lo st (.ref n) = some (.ins c gs) := by
  unfold fzD rs
  rw [if_neg hn]
  simp only [fzK, rlk, h]
  rw [show rsf lo (rlk lo st (rlk lo st (rlk lo st fun _ => none))) fs = some gs from p]
  rfl
theorem popR_ok {d e : D} {st2 : DSto} (h1 : fzD st.length st' d = some e) (h2 : popS st st' = some st2) : popR st (.ok d st') = .ok e st2 := by
  show (match fzD st.length st' d, popS st st' with | some e, some st2 => DRes.ok e st2 | _, _ => .bad) = _
  rw [h1, h2]
@[simp] theorem popR_bad : popR st .bad = .bad := id rfl
end
theorem bodyP_ap {n N : Nat} {s : DenS} {ds : List D} {st : DSto} : bodyP n N s ds st = popR st (bodyF n N s ds st) := id rfl
theorem starF_ap {n : Nat} {G : FnD} {ds : List D} {st : DSto} (h : n ≤ ds.length) (k : ds.length - n ≤ sizeLine) : starF n G ds st = G (ds.take n ++ [.tup (ds.drop n)]) st := if_pos ⟨h, k⟩
theorem mkObjV_ap {c : Nat} {G : FnD} {ds : List D} {st : DSto} : mkObjV c G ds st = popR st (mkObj c G ds st) := id rfl
/-! ### texts that stand for names -/
structure Name where
  s : Str
  ok : PyData.strOk s = true
  sz : s.length ≤ 16
theorem Name.ext' {a b : Name} (h : a.s = b.s) : a = b := by
  cases a; cases b; cases h; rfl
instance : DecidableEq Name := fun a b => decidable_of_iff (a.s = b.s) ⟨Name.ext', fun h => by rw [h]⟩
abbrev Name.d (a : Name) : D := .str a.s
theorem Name.d_inj {a b : Name} (h : a.d = b.d) : a = b := Name.ext' (D.str.inj h)
/-! ### data that may be compared -/
mutual
def toPy : D → PyData
  | .bl b => .bool b
  | .int i => .int i
  | .str s => .str s
  | .tup xs => .tuple (toPys xs)
  | .lst xs => .list (toPys xs)
  | _ => .none
def toPys : List D → List PyData
  | [] => []
  | x :: xs => toPy x :: toPys xs
end
mutual
def okD : D → Bool
  | .non => true
  | .bl _ => true
  | .int _ => true
  | .str s => PyData.strOk s
  | .tup xs => okDs xs
  | .lst xs => okDs xs
  | _ => false
def okDs : List D → Bool
  | [] => true
  | x :: xs => okD x && okDs xs
end
mutual
def dpD : D → Nat
  | .tup xs => dpDs xs + 1
  | .lst xs => dpDs xs + 1
  | _ => 0
def dpDs : List D → Nat
  | [] => 0
  | x :: xs => max (dpD x) (dpDs xs)
end
mutual
/-- == of data -/
def deqD : D → D → Bool
  | .non, y => match y with | .non => true | _ => false
  | .bl a, y => match y with | .bl b => a == b | .int j => (if a then 1 else 0) == j | _ => false
  | .int i, y => match y with | .int j => i == j | .bl b => i == (if b then 1 else 0) | _ => false
  | .str a, y => match y with | .str b => a == b | _ => false
  | .tup a, y => match y with | .tup b => deqDs a b | _ => false
  | .lst a, y => match y with | .lst b => deqDs a b | _ => false
  | _, _ => false
def deqDs : List D → List D → Bool
  | [], y => match y with | [] => true | _ => false
  | x :: xs, y => match y with | y :: ys => deqD x y && deqDs xs ys | _ => false
end
mutual
theorem pyOf_ok' (lk : Nat → Option PyData) : ∀ d : D, okD d = true → pyOf lk d = some (toPy d)
  | .non, _ => rfl
  | .bl _, _ => rfl
  | .int _, _ => rfl
  | .str _, _ => rfl
  | .tup xs, h => by simp only [pyOf, pyOfs_ok' lk xs h, Option.map_some, toPy]
  | .lst xs, h => by simp only [pyOf, pyOfs_ok' lk xs h, Option.map_some, toPy]
  | .dct _ _, h => by simp [okD] at h
  | .ins _ _, h => by simp [okD] at h
  | .ref _, h => by simp [okD] at h
  | .scr _, h => by simp [okD] at h
  | .exv _ _, h => by simp [okD] at h
theorem pyOfs_ok' (lk : Nat → Option PyData) : ∀ d : List D, okDs d = true → pyOfs lk d = some (toPys d)
  | [], _ => rfl
  | x :: xs, h => by
    simp only [okDs, Bool.and_eq_true] at h
    simp only [pyOfs, pyOf_ok' lk x h.1, pyOfs_ok' lk xs h.2, Option.bind_some, Option.map_some, toPys]
end
mutual
theorem lay_ok : ∀ d : D, okD d = true → (toPy d).canLay0 = true
  | .non, _ => rfl
  | .bl _, _ => rfl
  | .int _, _ => rfl
  | .str _, h => h
  | .tup xs, h => lays_ok xs h
  | .lst xs, h => lays_ok xs h
  | .dct _ _, h => by simp [okD] at h
  | .ins _ _, h => by simp [okD] at h
  | .ref _, h => by simp [okD] at h
  | .scr _, h => by simp [okD] at h
  | .exv _ _, h => by simp [okD] at h
theorem lays_ok : ∀ d : List D, okDs d = true → PyData.canLayAll0 (toPys d) = true
  | [], _ => rfl
  | x :: xs, h => by
    simp only [okDs, Bool.and_eq_true] at h
    show (PyData.canLay0 (toPy x) && PyData.canLayAll0 (toPys xs)) = true
    rw [lay_ok x h.1, lays_ok xs h.2]; rfl
end
mutual
theorem dep_ok : ∀ d : D, (toPy d).depth = dpD d
  | .non => rfl
  | .bl _ => rfl
  | .int _ => rfl
  | .str _ => rfl
  | .tup xs => by show PyData.depthAll (toPys xs) + 1 = _; rw [deps_ok xs]; rfl
  | .lst xs => by show PyData.depthAll (toPys xs) + 1 = _; rw [deps_ok xs]; rfl
  | .dct _ _ => rfl
  | .ins _ _ => rfl
  | .ref _ => rfl
  | .scr _ => rfl
  | .exv _ _ => rfl
theorem deps_ok : ∀ d : List D, PyData.depthAll (toPys d) = dpDs d
  | [] => rfl
  | x :: xs => by
    show max (PyData.depth (toPy x)) (PyData.depthAll (toPys xs)) = _
    rw [dep_ok x, deps_ok xs]; rfl
end
mutual
theorem eqv_ok : ∀ a b : D, okD a = true → okD b = true → PyData.eqv (toPy a) (toPy b) = deqD a b
  | .non, b, _, h => by cases b <;> first | rfl | simp [okD] at h
  | .bl _, b, _, h => by cases b <;> first | rfl | simp [okD] at h
  | .int _, b, _, h => by cases b <;> first | rfl | simp [okD] at h
  | .str _, b, _, h => by cases b <;> first | rfl | simp [okD] at h
  | .tup xs, b, k, h => by
    cases b with
    | tup ys => exact eqvs_ok xs ys k h
    | _ => first | rfl | simp [okD] at h
  | .lst xs, b, k, h => by
    cases b with
    | lst ys => exact eqvs_ok xs ys k h
    | _ => first | rfl | simp [okD] at h
  | .dct _ _, _, h, _ => by simp [okD] at h
  | .ins _ _, _, h, _ => by simp [okD] at h
  | .ref _, _, h, _ => by simp [okD] at h
  | .scr _, _, h, _ => by simp [okD] at h
  | .exv _ _, _, h, _ => by simp [okD] at h
theorem eqvs_ok : ∀ a b : List D, okDs a = true → okDs b = true → PyData.eqvAll (toPys a) (toPys b) = deqDs a b
  | [], b, _, _ => by cases b <;> rfl
  | x :: xs, b, k, h => by
    cases b with
    | nil => rfl
    | cons y ys =>
      simp only [okDs, Bool.and_eq_true] at h k
      show (PyData.eqv (toPy x) (toPy y) && PyData.eqvAll (toPys xs) (toPys ys)) = _
      rw [eqv_ok x y k.1 h.1, eqvs_ok xs ys k.2 h.2]; rfl
end
/-- data of depth n that may be compared -/
def Gd (n : Nat) (d : D) : Prop := okD d = true ∧ dpD d ≤ n
theorem Gd.mono {n m : Nat} {d : D} (h : Gd n d) (k : n ≤ m) : Gd m d := ⟨h.1, Nat.le_trans h.2 k⟩
theorem gd_name (a : Name) (n : Nat := 0) : Gd n a.d := ⟨a.ok, Nat.zero_le _⟩
theorem gd_int (i : Int) (n : Nat := 0) : Gd n (.int i) := ⟨rfl, Nat.zero_le _⟩
theorem gd_bl (i : Bool) (n : Nat := 0) : Gd n (.bl i) := ⟨rfl, Nat.zero_le _⟩
theorem gd_non (n : Nat := 0) : Gd n .non := ⟨rfl, Nat.zero_le _⟩
theorem gds {n : Nat} : ∀ {xs : List D}, (∀ x ∈ xs, Gd n x) → okDs xs = true ∧ dpDs xs ≤ n
  | [], _ => ⟨rfl, Nat.zero_le _⟩
  | x :: xs, h => by
    obtain ⟨h1, h2⟩ := h x List.mem_cons_self
    obtain ⟨h3, h4⟩ := gds fun y hy => h y (List.mem_cons_of_mem _ hy)
    exact ⟨by simp only [okDs, h1, h3, Bool.and_self], by simp only [dpDs]; omega⟩
theorem gd_tup {n : Nat} {xs : List D} (h : ∀ x ∈ xs, Gd n x) : Gd (n + 1) (.tup xs) := by
  obtain ⟨h1, h2⟩ := gds h
  exact ⟨h1, by simp only [dpD]; omega⟩
theorem gd_lst {n : Nat} {xs : List D} (h : ∀ x ∈ xs, Gd n x) : Gd (n + 1) (.lst xs) := by
  obtain ⟨h1, h2⟩ := gds h
  exact ⟨h1, by simp only [dpD]; omega⟩
theorem gd_map {α : Type} {n : Nat} {f : α → D} {l : List α} (h : ∀ a ∈ l, Gd n (f a)) : ∀ x ∈ l.map f, Gd n x := fun x hx => by
  obtain ⟨a, ha, rfl⟩ := List.mem_map.mp hx
  exact h a ha
theorem gd_nil {n : Nat} : ∀ x ∈ ([] : List D), Gd n x := fun x hx => by cases hx
theorem gd_cons {n : Nat} {x : D} {xs : List D} (h : Gd n x) (k : ∀ x ∈ xs, Gd n x) : ∀ y ∈ x :: xs, Gd n y := fun y hy => by
  rcases List.mem_cons.mp hy with rfl | hy
  · exact h
  · exact k y hy
theorem Gd.shaped {n : Nat} {d : D} (h : Gd n d) (hn : n ≤ 64 := by decide) : SeqAt.shaped (toPy d) = true := by
  unfold SeqAt.shaped
  rw [lay_ok d h.1, dep_ok d]
  have := h.2
  simp only [Bool.true_and, decide_eq_true_eq]
  omega
theorem eqO_gd {a b : D} {n m : Nat} {st : DSto} (ha : Gd n a) (hb : Gd m b) (hn : n ≤ 64 := by decide) (hm : m ≤ 64 := by decide) : eqO a b st = some (.bl (deqD a b), st) := by
  unfold eqO reify
  simp only [pyOf_ok' _ a ha.1, pyOf_ok' _ b hb.1, eqv_ok a b ha.1 hb.1]
  rw [if_pos ⟨ha.shaped hn, hb.shaped hm⟩]
theorem neO_gd {a b : D} {n m : Nat} {st : DSto} (ha : Gd n a) (hb : Gd m b) (hn : n ≤ 64 := by decide) (hm : m ≤ 64 := by decide) : neO a b st = some (.bl (!deqD a b), st) := by
  unfold neO reify
  simp only [pyOf_ok' _ a ha.1, pyOf_ok' _ b hb.1, eqv_ok a b ha.1 hb.1]
  rw [if_pos ⟨ha.shaped hn, hb.shaped hm⟩]
theorem toPys_any (x : D) : ∀ l : List D, okD x = true → okDs l = true → (toPys l).any (fun z => PyData.eqv z (toPy x)) = l.any (fun z => deqD z x)
  | [], _, _ => rfl
  | y :: l, hx, h => by
    simp only [okDs, Bool.and_eq_true] at h
    simp only [toPys, List.any_cons, eqv_ok y x h.1 hx, toPys_any x l hx h.2]
theorem inO_lst {x : D} {l : List D} {n m : Nat} {st : DSto} (hx : Gd n x) (hl : Gd m (.lst l)) (hn : n ≤ 64 := by decide) (hm : m ≤ 64 := by decide) : inO x (.lst l) st = some (.bl (l.any fun z => deqD z x), st) := by
  unfold inO memO reify
  simp only [dctD, pyOf_ok' _ x hx.1, pyOf_ok' _ (.lst l) hl.1, toPy]
  rw [if_pos ⟨hx.shaped hn, hl.shaped hm⟩, toPys_any x l hx.1 hl.1]
  rfl
theorem ninO_lst {x : D} {l : List D} {n m : Nat} {st : DSto} (hx : Gd n x) (hl : Gd m (.lst l)) (hn : n ≤ 64 := by decide) (hm : m ≤ 64 := by decide) : ninO x (.lst l) st = some (.bl (!l.any fun z => deqD z x), st) := by
  unfold ninO memO reify
  simp only [dctD, pyOf_ok' _ x hx.1, pyOf_ok' _ (.lst l) hl.1, toPy]
  rw [if_pos ⟨hx.shaped hn, hl.shaped hm⟩, toPys_any x l hx.1 hl.1]
  rfl
mutual
/-- no truth values within -/
def nbD : D → Bool
  | .bl _ => false
  | .tup xs => nbDs xs
  | .lst xs => nbDs xs
  | _ => true
def nbDs : List D → Bool
  | [] => true
  | x :: xs => nbD x && nbDs xs
end
mutual
theorem deqD_iff : ∀ a b : D, okD a = true → nbD a = true → nbD b = true → (deqD a b = true ↔ a = b)
  | .non, b, _, _, h => by cases b <;> simp [deqD, nbD] at h ⊢
  | .int _, b, _, _, h => by cases b <;> simp [deqD, nbD] at h ⊢
  | .str _, b, _, _, h => by cases b <;> simp [deqD, nbD] at h ⊢
  | .tup xs, b, o, k, h => by
    cases b with
    | tup ys => simpa [deqD] using deqDs_iff xs ys o k h
    | _ => simp [deqD, nbD] at h ⊢
  | .lst xs, b, o, k, h => by
    cases b with
    | lst ys => simpa [deqD] using deqDs_iff xs ys o k h
    | _ => simp [deqD, nbD] at h ⊢
  | .bl _, _, _, h, _ => by simp [nbD] at h
  | .dct _ _, _, h, _, _ => by simp [okD] at h
  | .ins _ _, _, h, _, _ => by simp [okD] at h
  | .ref _, _, h, _, _ => by simp [okD] at h
  | .scr _, _, h, _, _ => by simp [okD] at h
  | .exv _ _, _, h, _, _ => by simp [okD] at h
theorem deqDs_iff : ∀ a b : List D, okDs a = true → nbDs a = true → nbDs b = true → (deqDs a b = true ↔ a = b)
  | [], b, _, _, _ => by cases b <;> simp [deqDs]
  | x :: xs, b, o, k, h => by
    cases b with
    | nil => simp [deqDs]
    | cons y ys =>
      simp only [okDs, nbDs, Bool.and_eq_true] at o h k
      simp [deqDs, deqD_iff x y o.1 k.1 h.1, deqDs_iff xs ys o.2 k.2 h.2]
end
/-- data whose == is equality -/
def Eqd (n : Nat) (d : D) : Prop := Gd n d ∧ nbD d = true
theorem Eqd.mono {n m : Nat} {d : D} (h : Eqd n d) (k : n ≤ m) : Eqd m d := ⟨h.1.mono k, h.2⟩
theorem eqd_name (a : Name) (n : Nat := 0) : Eqd n a.d := ⟨gd_name a n, rfl⟩
theorem eqd_int (i : Int) (n : Nat := 0) : Eqd n (.int i) := ⟨gd_int i n, rfl⟩
theorem eqd_non (n : Nat := 0) : Eqd n .non := ⟨gd_non n, rfl⟩
theorem nbDs_of {n : Nat} : ∀ {xs : List D}, (∀ x ∈ xs, Eqd n x) → nbDs xs = true
  | [], _ => rfl
  | x :: xs, h => by simp only [nbDs, (h x List.mem_cons_self).2, nbDs_of fun y hy => h y (List.mem_cons_of_mem _ hy), Bool.and_self]
theorem eqd_tup {n : Nat} {xs : List D} (h : ∀ x ∈ xs, Eqd n x) : Eqd (n + 1) (.tup xs) := ⟨gd_tup fun x hx => (h x hx).1, nbDs_of h⟩
theorem eqd_lst {n : Nat} {xs : List D} (h : ∀ x ∈ xs, Eqd n x) : Eqd (n + 1) (.lst xs) := ⟨gd_lst fun x hx => (h x hx).1, nbDs_of h⟩
theorem eqd_map {α : Type} {n : Nat} {f : α → D} {l : List α} (h : ∀ a ∈ l, Eqd n (f a)) : ∀ x ∈ l.map f, Eqd n x := fun x hx => by
  obtain ⟨a, ha, rfl⟩ := List.mem_map.mp hx
  exact h a ha
theorem eqd_nil {n : Nat} : ∀ x ∈ ([] : List D), Eqd n x := fun x hx => by cases hx
theorem eqd_cons {n : Nat} {x : D} {xs : List D} (h : Eqd n x) (k : ∀ x ∈ xs, Eqd n x) : ∀ y ∈ x :: xs, Eqd n y := fun y hy => by
  rcases List.mem_cons.mp hy with rfl | hy
  · exact h
  · exact k y hy
theorem deqD_eqd {n m : Nat} {a b : D} (ha : Eqd n a) (hb : Eqd m b) : deqD a b = decide (a = b) := by
  have := deqD_iff a b ha.1.1 ha.2 hb.2
  rw [Bool.eq_iff_iff, this, decide_eq_true_iff]
theorem eqO_eqd {a b : D} {n m : Nat} {st : DSto} (ha : Eqd n a) (hb : Eqd m b) (hn : n ≤ 64 := by decide) (hm : m ≤ 64 := by decide) : eqO a b st = some (.bl (decide (a = b)), st) := by
  rw [eqO_gd ha.1 hb.1 hn hm, deqD_eqd ha hb]
theorem neO_eqd {a b : D} {n m : Nat} {st : DSto} (ha : Eqd n a) (hb : Eqd m b) (hn : n ≤ 64 := by decide) (hm : m ≤ 64 := by decide) : neO a b st = some (.bl (!decide (a = b)), st) := by
  rw [neO_gd ha.1 hb.1 hn hm, deqD_eqd ha hb]
theorem any_deqD {n m : Nat} {x : D} (hx : Eqd n x) : ∀ {l : List D}, (∀ y ∈ l, Eqd m y) → l.any (fun z => deqD z x) = decide (x ∈ l)
  | [], _ => by simp
  | y :: l, h => by
    rw [List.any_cons, any_deqD hx fun z hz => h z (List.mem_cons_of_mem _ hz), deqD_eqd (h y List.mem_cons_self) hx]
    rw [Bool.eq_iff_iff]
    simp only [Bool.or_eq_true, decide_eq_true_eq, List.mem_cons]
    exact ⟨fun h => h.imp Eq.symm id, fun h => h.imp Eq.symm id⟩
theorem inO_eqd {x : D} {l : List D} {n m : Nat} {st : DSto} (hx : Eqd n x) (hl : ∀ y ∈ l, Eqd m y) (hn : n ≤ 64 := by decide) (hm : m ≤ 63 := by decide) : inO x (.lst l) st = some (.bl (decide (x ∈ l)), st) := by
  rw [inO_lst hx.1 (eqd_lst hl).1 hn (by omega), any_deqD hx hl]
theorem ninO_eqd {x : D} {l : List D} {n m : Nat} {st : DSto} (hx : Eqd n x) (hl : ∀ y ∈ l, Eqd m y) (hn : n ≤ 64 := by decide) (hm : m ≤ 63 := by decide) : ninO x (.lst l) st = some (.bl (!decide (x ∈ l)), st) := by
  rw [ninO_lst hx.1 (eqd_lst hl).1 hn (by omega), any_deqD hx hl]
theorem mem_map_inj {α : Type} {f : α → D} (hf : ∀ a b, f a = f b → a = b) {a : α} {l : List α} : f a ∈ l.map f ↔ a ∈ l := by
  rw [List.mem_map]
  exact ⟨fun ⟨b, hb, e⟩ => hf _ _ e ▸ hb, fun h => ⟨a, h, rfl⟩⟩
theorem map_inj' {α : Type} {f : α → D} (hf : ∀ a b, f a = f b → a = b) : ∀ {l m : List α}, l.map f = m.map f ↔ l = m
  | [], [] => by simp
  | [], _ :: _ => by simp
  | _ :: _, [] => by simp
  | a :: l, b :: m => by
    rw [List.map_cons, List.map_cons, List.cons.injEq, List.cons.injEq, map_inj' hf]
    exact ⟨fun h => ⟨hf _ _ h.1, h.2⟩, fun h => ⟨by rw [h.1], h.2⟩⟩
theorem strs_inj {l m : List Name} : l.map Name.d = m.map Name.d ↔ l = m := map_inj' (fun _ _ => Name.d_inj)
theorem strs_eqd (l : List Name) : ∀ x ∈ l.map Name.d, Eqd 0 x := eqd_map fun a _ => eqd_name a
theorem inV_names (a : Name) : ∀ l : List Name, inV (vOf a.d) ((l.map Name.d).map vOf) = decide (a ∈ l)
  | [] => by simp [inV]
  | b :: l => by
    have ih := inV_names a l
    unfold inV at ih ⊢
    rw [List.map_cons, List.map_cons, List.any_cons, ih]
    have e : eqV (vOf b.d) (vOf a.d) = decide (a = b) := by
      show decide (b.s = a.s) = _
      rw [decide_eq_decide]
      exact ⟨fun h => Name.ext' h.symm, fun h => by rw [h]⟩
    rw [e, Bool.eq_iff_iff]
    simp [List.mem_cons]
theorem flat_names (l : List Name) : (l.map Name.d).all flatD = true := by
  rw [List.all_map]
  exact List.all_eq_true.mpr fun _ _ => rfl
/-- a name in a tuple of names -/
theorem inO_names {a : Name} {l : List Name} {st : DSto} : inO a.d (.tup (l.map Name.d)) st = some (.bl (decide (a ∈ l)), st) := by
  show (if flatD a.d = true ∧ (l.map Name.d).all flatD = true then some (D.bl (inV (vOf a.d) ((l.map Name.d).map vOf)), st) else none) = _
  rw [if_pos ⟨rfl, flat_names l⟩, inV_names]
theorem ninO_names {a : Name} {l : List Name} {st : DSto} : ninO a.d (.tup (l.map Name.d)) st = some (.bl (!decide (a ∈ l)), st) := by
  show (if flatD a.d = true ∧ (l.map Name.d).all flatD = true then some (D.bl (!inV (vOf a.d) ((l.map Name.d).map vOf)), st) else none) = _
  rw [if_pos ⟨rfl, flat_names l⟩, inV_names]
end FV

set_option Elab.async false
set_option linter.all false
set_option maxRecDepth 100000
set_option maxHeartbeats 4000000
namespace FV
open PySem PySem.Spec PyProof.Rows L2
section
variable {ρ : DEnv} {st : DSto} {d d2 d3 : Den} {b : DenS} {da : DenA} {di : DenI} {g : DenG} {t : DenT} {ek ev : Den} {vs : List Nat} {c k : Nat} {fs : List (Nat × D)} {nms : List Nat} {msg : Option Nat} {hs : List Hd} {h : Hd} {l sub : List (Nat × Bool)} {o : Option Nat}
@[simp] theorem dBad_ap : dBad ρ st = .bad := id rfl
@[simp] theorem sBad_ap : sBad ρ st = .bad := id rfl
@[simp] theorem iBad_ap : iBad ρ st = .bad := id rfl
@[simp] theorem dDctV_ap : dDctV ρ st = .ok (.dct false []) st := id rfl
@[simp] theorem dDct_ap {t : Bool} : dDct t ρ st = .ok (.ref st.length) (st ++ [.dct t []]) := id rfl
@[simp] theorem dLenSet_ap : dLenSet d ρ st = (d ρ st).bind fun x st => match x with
  | .tup xs => match txtsD xs with
    | some ks => if ks.length ≤ 1000 then .ok (.int (once ks.reverse).length) st else .bad
    | none => .bad
  | _ => .bad := id rfl
@[simp] theorem dRaise_ap : dRaise c nms msg da ρ st = (da ρ st).toS ρ fun ds st => if ds.length = nms.length ∧ ds.length ≤ 1000 ∧ okMsgD msg ds = true then .exc c (nms.zip ds).reverse ρ st else .bad := id rfl
@[simp] theorem dTry_ap : dTry b hs ρ st = match b ρ st with
  | .exc c fs ρ' st' => dHandle c fs hs ρ' st'
  | r => r := id rfl
@[simp] theorem dHandle_nil : dHandle c fs [] ρ st = .exc c fs ρ st := id rfl
@[simp] theorem dHandle_cons : dHandle c fs (h :: hs) ρ st = match subD h.sub c with
    | none => .bad
    | some true => finE h.slot ρ st (h.suite (onE h.slot c fs ρ) st)
    | some false => dHandle c fs hs ρ st := id rfl
@[simp] theorem subD_nil : subD [] c = none := id rfl
@[simp] theorem subD_cons {b : Bool} : subD ((k, b) :: l) c = if k = c then some b else subD l c := id rfl
@[simp] theorem onE_some {i : Nat} : onE (some i) c fs ρ = ρ.set i (some (.exv c fs)) := id rfl
@[simp] theorem onE_none : onE none c fs ρ = ρ := id rfl
@[simp] theorem offE_some {i : Nat} : offE (some i) ρ = ρ.set i none := id rfl
@[simp] theorem offE_none : offE none ρ = ρ := id rfl
@[simp] theorem finE_rt {d : D} {ρ0 : DEnv} {st0 : DSto} : finE o ρ0 st0 (.rt d st) = if nox d = true ∧ st = st0 then .rt d st else .bad := id rfl
@[simp] theorem finE_nx {ρ0 : DEnv} {st0 : DSto} : finE o ρ0 st0 (.nx ρ st) = if keepE ρ0 (offE o ρ) = true ∧ st = st0 then .nx (offE o ρ) st else .bad := id rfl
@[simp] theorem dExf_ap : dExf k d ρ st = (d ρ st).bind fun x st => match x with
  | .exv _ fs => match getN k fs with
    | some v => .ok v st
    | none => .bad
  | _ => .bad := id rfl
@[simp] theorem dIsE_ap : dIsE l d ρ st = (d ρ st).bind fun x st => match x with
  | .exv c _ => match subD l c with
    | some b => .ok (.bl b) st
    | none => .bad
  | _ => .bad := id rfl
@[simp] theorem dIItems_ap : dIItems d ρ st = (d ρ st).bind fun x st => match x with
  | .dct false kvs => .ok (kvs.map fun p => D.tup [p.1, p.2], []) st
  | _ => .bad := id rfl
@[simp] theorem dIKeys_ap : dIKeys d ρ st = (d ρ st).bind fun x st => match x with
  | .dct false kvs => .ok (kvs.map (·.1), []) st
  | _ => .bad := id rfl
@[simp] theorem dGet1_ap : dGet1 d d2 ρ st = (d ρ st).bind fun x st => if (dctD x st).isSome = true then (d2 ρ st).bind fun k st => ofO (getO x k .non st) else .bad := id rfl
@[simp] theorem dGet2_ap : dGet2 d d2 d3 ρ st = (d ρ st).bind fun x st => if (dctD x st).isSome = true then (d2 ρ st).bind fun k st => (d3 ρ st).bind fun z st => ofO (getO x k z st) else .bad := id rfl
@[simp] theorem dDcB_ap {step : DEnv → List (D × D) → DSto → Option (List (D × D) × DSto)} : dDcB di vs g step ρ st = (di ρ st).bind fun p st1 => match compA p.2 vs g step ρ p.1 [] st1 with
  | some (acc, st2) => .ok (.dct false acc) st2
  | none => .bad := id rfl
@[simp] theorem stepD_ap {acc : List (D × D)} : stepD t ek ev ρ acc st = match t ρ st with
  | .ok true st2 => match ek ρ st2 with
    | .ok k st3 => match ev ρ st3 with
      | .ok y st4 => if acc.length < sizeLine then (dputD false acc k y).map fun a => (a, st4) else none
      | _ => none
    | _ => none
  | .ok false st2 => some (acc, st2)
  | _ => none := id rfl
@[simp] theorem kwN_ap {G : FnD} {ds : List D} : kwN G ds st = G (ds ++ [.non]) st := id rfl
theorem popB_nx {ρ' ρ2 : DEnv} {st' st2 : DSto} (h : b ρ st = .nx ρ' st') (h1 : popE st.length st' ρ ρ' = some ρ2) (h2 : popS st st' = some st2) : popB b ρ st = .nx ρ2 st2 := by
  unfold popB
  rw [h]
  dsimp only
  rw [h1, h2]
theorem compA_nil {β : Type} {ch : Chk} {step : DEnv → β → DSto → Option (β × DSto)} {acc : β} : compA ch vs g step ρ [] acc st = if chkB ch st = true then some (acc, st) else none := by unfold compA; rfl
theorem compA_cons {β : Type} {ch : Chk} {step : DEnv → β → DSto → Option (β × DSto)} {acc : β} {x : D} {xs : List D} : compA ch vs g step ρ (x :: xs) acc st = if chkB ch st = true then (match g x (wipeE ρ vs) st with
      | none => none
      | some (ρ1, st1) => match step ρ1 acc st1 with
        | none => none
        | some (acc2, st2) => compA ch vs g step ρ xs acc2 st2) else none := by rw [compA] <;> rfl
/-- over known items, the store as it is -/
theorem compA_fold {α β : Type} {ch : Chk} {step : DEnv → β → DSto → Option (β × DSto)} (f : α → D) (I : List α → β) (hc : chkB ch st = true) : ∀ (l pre : List α),
    (∀ p x q, pre ++ l = p ++ x :: q → ∃ ρ1, g (f x) (wipeE ρ vs) st = some (ρ1, st) ∧ step ρ1 (I p) st = some (I (p ++ [x]), st)) → compA ch vs g step ρ (l.map f) (I pre) st = some (I (pre ++ l), st)
  | [], pre, _ => by rw [List.map_nil, compA_nil, if_pos hc, List.append_nil]
  | x :: l, pre, h => by
    obtain ⟨ρ1, e1, e2⟩ := h pre x l rfl
    rw [List.map_cons, compA_cons, if_pos hc, e1]
    dsimp only
    rw [e2]
    dsimp only
    rw [compA_fold f I hc l (pre ++ [x]) fun p y q e => h p y q (by simpa using e)]
    simp
@[simp] theorem listDO_lst {xs : List D} : listDO [.lst xs] st = some (.lst xs, st) := id rfl
@[simp] theorem listDO_tup {xs : List D} : listDO [.tup xs] st = some (.lst xs, st) := id rfl
theorem listDO_ref {n : Nat} {xs : List D} (h : st[n]? = some (.lst xs)) : listDO [.ref n] st = some (.lst xs, st) := by simp [listDO, dctD, listO, itemsD, h]
theorem listDO_dct {kvs : List (D × D)} (h : kvs.length ≤ sizeLine) : listDO [.dct false kvs] st = some (.lst (kvs.map (·.1)), st) := by
  show (if kvs.length ≤ sizeLine then some (D.lst (kvs.map (·.1)), st) else none) = _
  rw [if_pos h]
@[simp] theorem txtsD_nil : txtsD [] = some [] := id rfl
@[simp] theorem txtsD_cons {z : Str} {xs : List D} : txtsD (.str z :: xs) = (txtsD xs).map fun l => z :: l := id rfl
end
end FV

set_option Elab.async false
set_option linter.all false
set_option maxRecDepth 100000
set_option maxHeartbeats 4000000
namespace FV
open PySem PySem.Spec PyProof.Rows L2
section
variable {K : PySem.W.Frag} {C D : Addr} {cls : Value} {b : Bool}
theorem xf_of (h1 : PySem.W.findIn K (.ref C) "__getattribute__" = some (some (.builtin "BaseException.__getattribute__"))) (h2 : PySem.W.findIn K (.ref C) "__getattr__" = some none) (h3 : PySem.W.subIn K (.ref C) (.type "BaseException") = some true) (h4 : PySem.W.hasDictIn K C = true) : XfC K C := ⟨h1, h2, h3, h4⟩
/-- super().__init__ of C, whose mro goes on as D's -/
theorem sup_of {name : Str} {r : Option (Option Value)} {cd cd2 : ClassData} (h1 : PySem.W.clsIn K C = some cd) (h2 : PySem.W.clsIn K D = some cd2) (hm : (cd.mro.dropWhile (· != .ref C)).drop 1 = cd2.mro) (h : PySem.W.findIn K (.ref D) name = r) : PySem.W.ks_superIn K C C name = r := by
  unfold PySem.W.ks_superIn
  rw [h1, Option.bind_some, hm, ← h]
  unfold PySem.W.findIn
  unfold PySem.W.clsIn at h2
  split at h2
  · rename_i c d cd' sl ho
    cases h2
    dsimp only
    rw [ho]
  · cases h2
theorem kit_own {E : Addr} {cd : ClassData} (h1 : PySem.W.clsIn K D = some cd) (h2 : PySem.W.typeIn K (.ref D) = some (.type "type")) (h3 : PySem.W.subIn K (.ref E) (.ref D) = some b) (h4 : E = D → b = true) : PySem.W.kitOne K (.ref E) (.ref D) = some b := by
  unfold PySem.W.kitOne
  by_cases e : E = D
  · subst e
    rw [if_pos (beq_self_eq_true _), h4 rfl]
  · rw [if_neg (by simpa using e)]
    show (if ((PySem.W.clsIn K D).isSome && PySem.W.typeIn K (.ref D) == some (.type "type")) = true then PySem.W.subIn K (.ref E) (.ref D) else none) = some b
    rw [h1, h2]
    exact h3
theorem kit_typ {E : Addr} {ty : String} (h : PySem.W.kitMeta ty = true) (h3 : PySem.W.subIn K (.ref E) (.type ty) = some b) : PySem.W.kitOne K (.ref E) (.type ty) = some b := by
  unfold PySem.W.kitOne
  rw [if_neg (by simp)]
  show (if PySem.W.kitMeta ty = true then PySem.W.subIn K (.ref E) (.type ty) else none) = some b
  rw [if_pos h]
  exact h3
end
end FV

set_option Elab.async false
set_option linter.all false
set_option maxRecDepth 100000
set_option maxHeartbeats 4000000
namespace FV
open PySem PySem.Spec PyProof.Rows L2
/-- what these slots hold behind the statement is forgotten -/
def dWp (ws : List Nat) (s : DenS) : DenS := fun ρ st => match s ρ st with
  | .nx ρ' st' => .nx (wipeE ρ' ws) st'
  | r => r
section
variable {X : Cx} {T : Tb} {W : WX} {a : Stmt} {da : DenS}
theorem psx_wp (ws : List Nat) (h : PSX X T W a da) : PSX X T W a (dWp ws da) := ps_imp h fun D σ H ⟨M, ρ, st, s, e, h⟩ => ⟨M, ρ, st, s, e, by
  unfold dWp at h
  cases q : da ρ st with
  | nx ρ' st' =>
    rw [q] at h
    intro M' σ' H' s' x e'
    exact h M' σ' H' s' x (e'.wipeOnly ws)
  | rt d st' => rw [q] at h; exact h
  | bk ρ' st' => rw [q] at h; exact h
  | ct ρ' st' => rw [q] at h; exact h
  | exc c fs ρ' st' => rw [q] at h; exact h
  | bad => rw [q] at h; exact h⟩
end
end FV

set_option Elab.async false
set_option linter.all false
set_option maxRecDepth 100000
set_option maxHeartbeats 4000000
namespace FV
open PySem PySem.Spec PyProof.Rows L2

/-! ### the law's own words that all laws share -/
def den_law_source : DenS :=
  (dSeq (dAsg 1 (dLcB false (dISeq (dSl (dVar 0) none (some (dC (.int 63))))) [2] (gdName 2) (stepE dYes (dB' intO (dCons (dVar 2) dNil)))))
    (dRet (dLst (dCons (dVar 1) (dCons (dLcB true (dISeq (dVar 1)) [2] (gdName 2) (stepE dYes (dOp geO (dVar 2) (dOp powO (dC (.int 10)) (dC (.int 18)))))) (dCons (dC (.int 0)) (dCons (dC (.int 0)) (dCons (dOp modO (dB' intO (dCons (dB' sumO (dCons (dVar 1) dNil)) dNil)) (dC (.int 1000003))) dNil))))))))
def G_law_source : FnD := bodyF 1 3 den_law_source

def den_law_draw : DenS :=
  (dSeq (dAsg 2 (dOp ixO (dVar 0) (dC (.int 0))))
    (dSeq (dAsg 3 (dOp ixO (dVar 0) (dC (.int 2))))
    (dSeq (dIfS (dB (dOp ltO (dVar 3) (dB' lenO (dCons (dVar 2) dNil)))) (dSeq (dAsg 5 (dOp ixO (dVar 2) (dVar 3)))
    (dSeq (dAsgG (dOp fdivO (dVar 5) (dVar 1)) (gdSub (dVar 2) (dVar 3) setO))
    (dSeq (dIfS (dOr (dNot (dB (dOp ixO (dOp ixO (dVar 0) (dC (.int 1))) (dVar 3)))) (dB (dOp eqO (dOp ixO (dVar 2) (dVar 3)) (dC (.int 0))))) (dAsgG (dOp addO (dVar 3) (dC (.int 1))) (gdSub (dVar 0) (dC (.int 2)) setO)) dSkip)
    (dRet (dOp modO (dB' intO (dCons (dVar 5) dNil)) (dVar 1)))))) dSkip)
    (dSeq (dIfS (dB (dOp eqO (dOp ixO (dVar 0) (dC (.int 4))) (dC (.int 0)))) (dRet (dC (.int 0))) dSkip)
    (dSeq (dAsgG (dOp addO (dOp ixO (dVar 0) (dC (.int 3))) (dC (.int 1))) (gdSub (dVar 0) (dC (.int 3)) setO))
    (dSeq (dAsg 4 (dOp modO (dB' intO (dCons (dOp mulO (dOp addO (dOp ixO (dVar 0) (dC (.int 4))) (dOp mulO (dOp ixO (dVar 0) (dC (.int 3))) (dC (.int 7919)))) (dC (.int 48271))) dNil)) (dC (.int 2147483647))))
    (dRet (dOp modO (dOp fdivO (dOp modO (dB' intO (dCons (dOp mulO (dVar 4) (dVar 4)) dNil)) (dC (.int 998244353))) (dC (.int 7))) (dVar 1)))))))))
def G_law_draw : FnD := bodyF 2 6 den_law_draw

def den_law_names : DenS :=
  (dSeq (dAsg 2 (dC (.str (PySem.Str.ofString "abcdefghijklmnopqrstuvwxyz"))))
    (dSeq (dAsg 3 (dCall G_law_draw (dCons (dVar 0) (dCons (dC (.int 4)) dNil))))
    (dSeq (dAsg 4 (dCall G_law_draw (dCons (dVar 0) (dCons (dC (.int 4)) dNil))))
    (dSeq (dAsg 5 (dCall G_law_draw (dCons (dVar 0) (dCons (dC (.int 2)) dNil))))
    (dSeq (dAsg 6 (dCall G_law_draw (dCons (dVar 0) (dCons (dC (.int 26)) dNil))))
    (dSeq (dAsg 7 (dOp ixO (dVar 2) (dCall G_law_draw (dCons (dVar 0) (dCons (dC (.int 26)) dNil)))))
    (dRet (dLcB true (dIRng1 (dVar 1)) [8] (gdName 8) (stepE dYes (dOp addO (dOp addO (dOp mulO (dVar 7) (dVar 3)) (dOp ixO (dVar 2) (dOp modO (dB' intO (dCons (dOp addO (dVar 6) (dVar 8)) dNil)) (dC (.int 26))))) (dOp mulO (dVar 7) (dOp addO (dVar 4) (dOp mulO (dVar 5) (dOp modO (dB' intO (dCons (dVar 8) dNil)) (dC (.int 3))))))))))))))))
def G_law_names : FnD := bodyF 2 9 den_law_names


/-- the source: its cells with their marks, where it stands, its count, its seed -/
structure Src where
  cells : List (Int × Bool)
  at_ : Nat
  n : Int
  seed : Int
/-- a store with the source ahead -/
def SS (s : Src) (r : DSto) : DSto := .lst (s.cells.map fun p => .int p.1) :: .lst [.ref 0, .lst (s.cells.map fun p => .bl p.2), .int s.at_, .int s.n, .int s.seed] :: r
section
variable {s s' : Src} {r ν : DSto} {k : Nat} {o : DObj}
@[simp] theorem SS_len : (SS s r).length = r.length + 2 := id rfl
@[simp] theorem SS_app : SS s r ++ ν = SS s (r ++ ν) := id rfl
@[simp] theorem SS_get : (SS s r)[k + 2]? = r[k]? := by simp [SS]
@[simp] theorem SS_set : (SS s r).set (k + 2) o = SS s (r.set k o) := by simp [SS]
theorem SS_pop : popS (SS s r) (SS s' (r ++ ν)) = some (SS s' r) := by
  have pi : ∀ (l : List (Int × Bool)) lo lk, rss lo lk (l.map fun p => D.int p.1) = some (l.map fun p => D.int p.1) := fun l => pures_map (fun _ => pure_int _) l
  have pb : ∀ (l : List (Int × Bool)) lo lk, rss lo lk (l.map fun p => D.bl p.2) = some (l.map fun p => D.bl p.2) := fun l => pures_map (fun _ => pure_bl _) l
  have h : popZ (SS s r).length (SS s' (r ++ ν)) [.lst (s.cells.map fun p => .int p.1), .lst [.ref 0, .lst (s.cells.map fun p => .bl p.2), .int s.at_, .int s.n, .int s.seed]] [.lst (s'.cells.map fun p => .int p.1), .lst [.ref 0, .lst (s'.cells.map fun p => .bl p.2), .int s'.at_, .int s'.n, .int s'.seed]] = some [.lst (s'.cells.map fun p => .int p.1), .lst [.ref 0, .lst (s'.cells.map fun p => .bl p.2), .int s'.at_, .int s'.n, .int s'.seed]] := by
    have f1 : fzO (SS s r).length (SS s' (r ++ ν)) (.lst (s'.cells.map fun p => .int p.1)) = some (.lst (s'.cells.map fun p => .int p.1)) := by simp only [fzO, pi, Option.map_some]
    have f2 : fzO (SS s r).length (SS s' (r ++ ν)) (.lst [.ref 0, .lst (s'.cells.map fun p => .bl p.2), .int s'.at_, .int s'.n, .int s'.seed]) = some (.lst [.ref 0, .lst (s'.cells.map fun p => .bl p.2), .int s'.at_, .int s'.n, .int s'.seed]) := by
      simp [fzO, rss, rs, pb]
    have g : ∀ o p : DObj, fzO (SS s r).length (SS s' (r ++ ν)) p = some p → ∀ os ps qs, popZ (SS s r).length (SS s' (r ++ ν)) os ps = some qs → popZ (SS s r).length (SS s' (r ++ ν)) (o :: os) (p :: ps) = some (p :: qs) := fun o p hp os ps qs hq => by
      unfold popZ
      by_cases e : p = o
      · rw [if_pos e, hq]; subst e; rfl
      · rw [if_neg e, hp, hq]; rfl
    exact g _ _ f1 _ _ _ (g _ _ f2 _ _ _ rfl)
  have := popZ_app (r := r) (ν := ν) (by rfl) h
  exact this
theorem SS_pop' : popS (SS s r) (SS s' r) = some (SS s' r) := by
  have := SS_pop (s := s) (s' := s') (r := r) (ν := [])
  rwa [List.append_nil] at this
end
theorem draw_okA (s : Src) {m : Int} (h0 : 0 < m) (h1 : m < 1073741824) : ∃ (v : Nat) (s' : Src), (∀ r, G_law_draw [.ref 1, .int m] (SS s r) = .ok (.int v) (SS s' r)) ∧ (v : Int) < m := by
  have fin : ∀ (v : Int) (s' : Src), 0 ≤ v → v < m → (∀ r, G_law_draw [.ref 1, .int m] (SS s r) = .ok (.int v) (SS s' r)) → ∃ (v : Nat) (s' : Src), (∀ r, G_law_draw [.ref 1, .int m] (SS s r) = .ok (.int v) (SS s' r)) ∧ (v : Int) < m := fun v s' a b e => by
    obtain ⟨n, rfl⟩ := Int.eq_ofNat_of_zero_le a
    exact ⟨n, s', e, b⟩
  obtain ⟨c, k, n, s⟩ := s
  by_cases hk : k < c.length
  · have e1 : (c.map fun p => D.int p.1)[k]? = some (.int c[k].1) := by rw [List.getElem?_map, List.getElem?_eq_getElem hk]; rfl
    have e2 : (c.map fun p => D.bl p.2)[k]? = some (.bl c[k].2) := by rw [List.getElem?_map, List.getElem?_eq_getElem hk]; rfl
    have n0 : 0 ≤ c[k].1 % m := Int.emod_nonneg _ (by omega)
    have n1 : c[k].1 % m < m := Int.emod_lt_of_pos _ h0
    have e4 : ((k : Int) + 1) = ((k + 1 : Nat) : Int) := by omega
    have m1 : (c.set k (c[k].1 / m, c[k].2)).map (fun p => D.int p.1) = (c.map fun p => D.int p.1).set k (.int (c[k].1 / m)) := by rw [List.map_set]
    have m2 : (c.set k (c[k].1 / m, c[k].2)).map (fun p => D.bl p.2) = c.map fun p => D.bl p.2 := by
      apply List.ext_getElem?
      intro j
      rw [List.getElem?_map, List.getElem?_map]
      by_cases hj : k = j
      · subst hj; rw [List.getElem?_set_self hk, List.getElem?_eq_getElem hk]; rfl
      · rw [List.getElem?_set_ne hj]
    have hS : ∀ (r : DSto) (k2 : Nat), SS ⟨c.set k (c[k].1 / m, c[k].2), k2, n, s⟩ r = .lst ((c.map fun p => D.int p.1).set k (.int (c[k].1 / m))) :: .lst [.ref 0, .lst (c.map fun p => .bl p.2), .int k2, .int n, .int s] :: r := fun r k2 => by
      unfold SS; simp only [m1, m2]
    by_cases q : c[k].2 = true ∧ ¬ (c[k].1 / m = 0)
    · refine fin (c[k].1 % m) ⟨c.set k (c[k].1 / m, c[k].2), k, n, s⟩ n0 n1 fun r => ?_
      unfold G_law_draw
      rw [bodyF_ap (n := 2) rfl, hS]
      simp [den_law_draw, SS, ixO, dctD, ixS, itemsD, lenO, lenS, hk, atI_nat, e1, e2, fdivO_int, modO_int, h0, h1, setO, setLO, ixN, q.1, q.2]
    · refine fin (c[k].1 % m) ⟨c.set k (c[k].1 / m, c[k].2), k + 1, n, s⟩ n0 n1 fun r => ?_
      unfold G_law_draw
      have q' : c[k].2 = false ∨ (c[k].2 = true ∧ c[k].1 / m = 0) := by
        cases hb' : c[k].2 with
        | false => exact .inl rfl
        | true => exact .inr ⟨rfl, Classical.byContradiction fun w => q ⟨hb', w⟩⟩
      rw [bodyF_ap (n := 2) rfl, hS]
      rcases q' with q | q
      · simp [den_law_draw, SS, ixO, dctD, ixS, itemsD, lenO, lenS, hk, atI_nat, e1, e2, fdivO_int, modO_int, h0, h1, setO, setLO, ixN, q]
      · simp [den_law_draw, SS, ixO, dctD, ixS, itemsD, lenO, lenS, hk, atI_nat, e1, e2, fdivO_int, modO_int, h0, h1, setO, setLO, ixN, q.1, q.2]
  · by_cases hs : s = 0
    · refine fin 0 ⟨c, k, n, s⟩ (Int.le_refl _) h0 fun r => ?_
      unfold G_law_draw
      rw [bodyF_ap (n := 2) rfl]
      simp [den_law_draw, SS, ixO, dctD, ixS, itemsD, lenO, lenS, hk, hs]
    · have hsq : ∀ (st : DSto) (e : Int), mulO (.int (e % 2147483647)) (.int (e % 2147483647)) st = some (.int (e % 2147483647 * (e % 2147483647)), st) := fun st e => by
        have a0 : 0 ≤ e % 2147483647 := Int.emod_nonneg _ (by decide)
        have a1 : e % 2147483647 < 2147483647 := Int.emod_lt_of_pos _ (by decide)
        rw [mulO_int, if_pos (.inl ⟨by omega, by omega⟩)]
      refine fin ((s + (n + 1) * 7919) * 48271 % 2147483647 * ((s + (n + 1) * 7919) * 48271 % 2147483647) % 998244353 / 7 % m) ⟨c, k, n + 1, s⟩ (Int.emod_nonneg _ (by omega)) (Int.emod_lt_of_pos _ h0) fun r => ?_
      unfold G_law_draw
      rw [bodyF_ap (n := 2) rfl]
      simp [den_law_draw, SS, ixO, dctD, ixS, itemsD, lenO, lenS, hk, hs, setO, setLO, ixN, hsq, mulO_int, modO_int, fdivO_int, h0]
theorem draw_ok (s : Src) (r : DSto) {m : Int} (h0 : 0 < m) (h1 : m < 1073741824) : ∃ (v : Nat) (s' : Src), G_law_draw [.ref 1, .int m] (SS s r) = .ok (.int v) (SS s' r) ∧ (v : Int) < m := by
  obtain ⟨v, s', e, h⟩ := draw_okA s h0 h1
  exact ⟨v, s', e r, h⟩
theorem cut_all {xs : List D} {k : Nat} (h : xs.length ≤ k) : cutD xs none (some (k : Int)) = xs := by
  unfold cutD
  rw [HT.sIx_none, HT.sIx_nat, Nat.min_eq_right h]
  simp
theorem intsD_map {α : Type} (f : α → Int) : ∀ l : List α, intsD (l.map fun a => D.int (f a)) = some (l.map f)
  | [] => rfl
  | a :: l => by simp [intsD, intsD_map f l]
theorem blsD_map {α : Type} (f : α → Bool) : ∀ l : List α, blsD (l.map fun a => D.bl (f a)) = some (l.map f)
  | [] => rfl
  | a :: l => by simp [blsD, blsD_map f l]
/-- the source is made -/
theorem source_ok (ns : List Int) (hl : ns.length ≤ 63) : ∃ s, G_law_source [.scr ns] [] = .ok (.ref 1) (SS s []) := by
  have sz := szl
  have e0 : cutD (ns.map D.int) none (some 63) = ns.map D.int := cut_all (k := 63) (by simpa using hl)
  refine ⟨⟨ns.map fun n => (n, decide (10 ^ 18 ≤ n)), 0, 0, ns.sum % 1000003⟩, ?_⟩
  unfold G_law_source
  rw [bodyF_ap (n := 1) rfl]
  have c1 : ∀ (c : Chk) (ρ : DEnv) (st : DSto), chkB c st = true → ρ.length = 3 → compL c [2] (gdName 2) (stepE dYes (dB' intO (dCons (dVar 2) dNil))) ρ (ns.map D.int) [] st = some (ns.map D.int, st) := fun c ρ st hc hr => by
    refine compL_mapE D.int D.int hc ns (by omega) fun x hx acc ha => ⟨_, rfl, ?_⟩
    simp [hr, ha]
  have c2 : ∀ (c : Chk) (ρ : DEnv) (st : DSto), chkB c st = true → ρ.length = 3 → compL c [2] (gdName 2) (stepE dYes (dOp geO (dVar 2) (dOp powO (dC (.int 10)) (dC (.int 18))))) ρ (ns.map D.int) [] st = some (ns.map (fun n => .bl (decide (10 ^ 18 ≤ n))), st) := fun c ρ st hc hr => by
    refine compL_mapE D.int _ hc ns (by omega) fun x hx acc ha => ⟨_, rfl, ?_⟩
    simp [hr, ha, powO]
  have e3 := intsD_map id ns
  simp only [id_eq, List.map_id'] at e3
  have e4 : intsD (ns.map D.int) = some ns := by simpa using intsD_map id ns
  simp [den_law_source, e0, c1, c2, sumO, lstD, e4, modO_int, SS, Function.comp_def]
/-! ### names -/
theorem mul_one (c : Nat) (n : Nat) : Txt.mul ⟨#[c]⟩ (n : Int) = ⟨Array.replicate n c⟩ := by
  rw [← List.toArray_replicate]
  have hf : ∀ (m : Nat) (a : Array Nat), (List.replicate m #[c]).foldl (· ++ ·) a = a ++ (List.replicate m c).toArray := by
    intro m
    induction m with
    | zero => intro a; simp
    | succ m ih =>
      intro a
      rw [List.replicate_succ, List.foldl_cons, ih, List.replicate_succ]
      apply Array.ext'
      simp
  unfold Txt.mul
  by_cases h : (n : Int) < 1
  · rw [if_pos h]
    obtain rfl : n = 0 := by omega
    rfl
  · rw [if_neg h]
    by_cases h1 : ((n : Int) == 1 || (Str.length ⟨#[c]⟩) == 0) = true
    · rw [if_pos h1]
      have : n = 1 := by
        simp [Str.length] at h1
        omega
      subst this
      rfl
    · rw [if_neg h1]
      simp [hf]
theorem letters : (PySem.Str.ofString "abcdefghijklmnopqrstuvwxyz").cps.toList = (List.range 26).map (· + 97) := by decide +kernel
theorem letters_len : (PySem.Str.ofString "abcdefghijklmnopqrstuvwxyz").length = 26 := by decide +kernel
theorem letter_at (st : DSto) {i : Nat} (h1 : i < 26) : ixO (.str (PySem.Str.ofString "abcdefghijklmnopqrstuvwxyz")) (.int i) st = some (.str ⟨#[i + 97]⟩, st) := by
  rw [ixO_str]
  unfold ixS
  simp only [letters_len, letters]
  rw [if_pos (by decide), atI_nat]
  simp [h1]
def nameOf (f a l b : Nat) : Str := ⟨(List.replicate a f ++ l :: List.replicate b f).toArray⟩
theorem nameOf_eq (f a l b : Nat) : (⟨Array.replicate a f⟩ : Str) ++ ⟨#[l]⟩ ++ ⟨Array.replicate b f⟩ = nameOf f a l b := by
  rw [← List.toArray_replicate, ← List.toArray_replicate]
  unfold nameOf
  show (⟨((List.replicate a f).toArray ++ #[l]) ++ (List.replicate b f).toArray⟩ : Str) = ⟨_⟩
  congr 1
  apply Array.ext'
  simp
theorem nameOf_len (f a l b : Nat) : (nameOf f a l b).length = a + 1 + b := by
  simp [nameOf, Str.length]; omega
theorem nameOf_ok {f a l b : Nat} (hf : f < 200) (hl : l < 200) : PyData.strOk (nameOf f a l b) = true := by
  unfold PyData.strOk nameOf
  simp
  omega
theorem nameOf_ne {f a l b l' b' : Nat} (h : l ≠ l') : nameOf f a l b ≠ nameOf f a l' b' := by
  intro e
  unfold nameOf at e
  have e1 := congrArg (fun s : Str => s.cps.toList[a]?) e
  simp at e1
  exact h e1
theorem names_okA (s : Src) {count : Nat} (hc : count ≤ 26) : ∃ (names : List Name) (s' : Src), (∀ r, G_law_names [.ref 1, .int count] (SS s r) = .ok (.lst (names.map Name.d)) (SS s' r)) ∧ names.length = count ∧ names.Nodup ∧ ∀ x ∈ names, 1 ≤ x.s.length ∧ x.s.length ≤ 9 := by
  obtain ⟨ah, s1, e1, a1⟩ := draw_okA s (m := 4) (by decide) (by decide)
  obtain ⟨be, s2, e2, b1⟩ := draw_okA s1 (m := 4) (by decide) (by decide)
  obtain ⟨un, s3, e3, u1⟩ := draw_okA s2 (m := 2) (by decide) (by decide)
  obtain ⟨fi, s4, e4, f1⟩ := draw_okA s3 (m := 26) (by decide) (by decide)
  obtain ⟨fl, s5, e5, g1⟩ := draw_okA s4 (m := 26) (by decide) (by decide)
  have sz := szl
  have lim : ∀ k, un * (k % 3) ≤ 1 * 2 := fun k => Nat.mul_le_mul (by omega) (by omega)
  let nm : Nat → Name := fun k => ⟨nameOf (fl + 97) ah ((fi + k) % 26 + 97) (be + un * (k % 3)), nameOf_ok (by omega) (by omega), by rw [nameOf_len]; have := lim k; omega⟩
  refine ⟨(List.range count).map nm, s5, ?_, by simp, ?_, ?_⟩
  · intro r
    have e1 := e1 r; have e2 := e2 r; have e3 := e3 r; have e4 := e4 r; have e5 := e5 r
    unfold G_law_names
    rw [bodyF_ap (n := 2) rfl]
    unfold den_law_names
    have la := fun st => letter_at st (i := fl)
    have la' := fun (st : DSto) (i : Nat) (h : i < 26) => letter_at st (i := i) h
    generalize PySem.Str.ofString "abcdefghijklmnopqrstuvwxyz" = L at la la' ⊢
    have hcomp : ∀ ρ : DEnv, ρ = [some (.ref 1), some (.int count), some (.str L), some (.int ah), some (.int be), some (.int un), some (.int fi), some (.str ⟨#[fl + 97]⟩), none] →
        compL [] [8] (gdName 8) (stepE dYes (dOp addO (dOp addO (dOp mulO (dVar 7) (dVar 3)) (dOp ixO (dVar 2) (dOp modO (dB' intO (dCons (dOp addO (dVar 6) (dVar 8)) dNil)) (dC (D.int 26)))))
          (dOp mulO (dVar 7) (dOp addO (dVar 4) (dOp mulO (dVar 5) (dOp modO (dB' intO (dCons (dVar 8) dNil)) (dC (D.int 3)))))))) ρ ((List.range count).map fun k : Nat => D.int (k : Int)) [] (SS s5 r) =
        some ((List.range count).map (fun k => (nm k).d), SS s5 r) := by
      rintro ρ rfl
      refine compL_mapE (fun k : Nat => D.int (k : Int)) _ rfl _ (by simp; omega) fun k hk acc ha => ⟨_, rfl, ?_⟩
      have l1 := lim k
      obtain ⟨P, hP⟩ : ∃ P, P = be + un * (k % 3) := ⟨_, rfl⟩
      obtain ⟨Q, hQ⟩ : ∃ Q, Q = (fi + k) % 26 := ⟨_, rfl⟩
      have hnm : (nm k).d = .str (nameOf (fl + 97) ah (Q + 97) P) := by show D.str (nameOf _ _ _ _) = _; rw [← hP, ← hQ]
      have q1 : ((fi : Int) + (k : Int)) % 26 = (Q : Int) := by omega
      have q2 : (be : Int) + (un : Int) * ((k : Int) % 3) = (P : Int) := by subst hP; simp
      have m1 : ∀ n : Nat, n ≤ 1000 → mulO (.str ⟨#[fl + 97]⟩) (.int (n : Int)) (SS s5 r) = some (.str ⟨Array.replicate n (fl + 97)⟩, SS s5 r) := fun n hn => by
        unfold mulO
        dsimp only
        rw [if_pos ⟨(by show 1 ≤ 16; decide), by omega, by omega⟩, mul_one]
      have m2 : mulO (.int (un : Int)) (.int ((k : Int) % 3)) (SS s5 r) = some (.int ((un : Int) * ((k : Int) % 3)), SS s5 r) := by rw [mulO_int, if_pos (.inl ⟨by omega, by omega⟩)]
      have l2 := la' (SS s5 r) Q (by omega)
      have a1 : addO (.str ⟨Array.replicate ah (fl + 97)⟩) (.str ⟨#[Q + 97]⟩) (SS s5 r) = some (.str ((⟨Array.replicate ah (fl + 97)⟩ : Str) ++ ⟨#[Q + 97]⟩), SS s5 r) := addO_str _ (by simp [Str.length, szl]; omega)
      have a2 : addO (.str ((⟨Array.replicate ah (fl + 97)⟩ : Str) ++ ⟨#[Q + 97]⟩)) (.str ⟨Array.replicate P (fl + 97)⟩) (SS s5 r) = some (.str (nameOf (fl + 97) ah (Q + 97) P), SS s5 r) := by
        rw [← nameOf_eq]
        refine addO_str _ ?_
        show ((Array.replicate ah (fl + 97) ++ #[Q + 97]).size + (Array.replicate P (fl + 97)).size) ≤ _
        simp [szl]; omega
      rw [hnm]
      simp [modO_int, m1 ah (by omega), q1, l2, m2, q2, m1 P (by omega), ha, a1, a2]
    simp [e1, e2, e3, e4, e5, la _ (by omega : fl < 26), rngO_0 (n := count) (by omega)]
    rw [hcomp _ rfl]
    simp
  · unfold List.Nodup
    rw [List.pairwise_map]
    refine List.pairwise_lt_range.imp_of_mem fun {a b} ha hb hab => fun e => ?_
    have ha := List.mem_range.mp ha
    have hb := List.mem_range.mp hb
    exact nameOf_ne (by omega) (congrArg Name.s e)
  · intro x hx
    obtain ⟨k, hk, rfl⟩ := List.mem_map.mp hx
    show 1 ≤ (nameOf _ _ _ _).length ∧ (nameOf _ _ _ _).length ≤ 9
    rw [nameOf_len]
    have := lim k
    omega
theorem names_ok (s : Src) (r : DSto) {count : Nat} (hc : count ≤ 26) : ∃ (names : List Name) (s' : Src), G_law_names [.ref 1, .int count] (SS s r) = .ok (.lst (names.map Name.d)) (SS s' r) ∧ names.length = count ∧ names.Nodup ∧ ∀ x ∈ names, 1 ≤ x.s.length ∧ x.s.length ≤ 9 := by
  obtain ⟨l, s', e, h⟩ := names_okA s hc
  exact ⟨l, s', e r, h⟩
end FV

set_option Elab.async false
set_option linter.all false
set_option maxRecDepth 100000
set_option maxHeartbeats 4000000
namespace FV
open PySem PySem.Spec PyProof.Rows L2

/-! ## typed data -/
class Enc (α : Type) where
  en : α → D
open Enc
class EncD (α : Type) extends Enc α where
  dep : Nat
  gd : ∀ a : α, Gd dep (en a)
  deq : ∀ a b : α, deqD (en a) (en b) = true ↔ a = b
  pu : ∀ a : α, Pure (en a)
  nx : ∀ a : α, nox (en a) = true
  /-- == of values alone tells the same -/
  inj : ∀ a b : α, en a = en b → a = b
/-- flat data -/
class EncF (α : Type) extends EncD α where
  flat : ∀ a : α, flatD (en a) = true
  eqv : ∀ a b : α, eqV (vOf (en b)) (vOf (en a)) = true ↔ a = b
instance : EncF Int where
  en := .int
  dep := 0
  gd := fun a => gd_int a
  deq := fun a b => by simp [deqD]
  pu := pure_int
  nx := fun _ => rfl
  inj := fun a b h => D.int.inj h
  flat := fun _ => rfl
  eqv := fun a b => by
    show decide (b = a) = true ↔ a = b
    rw [decide_eq_true_eq]; exact ⟨Eq.symm, Eq.symm⟩
instance : EncD Bool where
  en := .bl
  dep := 0
  gd := fun a => gd_bl a
  deq := fun a b => by simp [deqD]
  pu := pure_bl
  nx := fun _ => rfl
  inj := fun a b h => D.bl.inj h
instance : EncF Name where
  en := Name.d
  dep := 0
  gd := fun a => gd_name a
  deq := fun a b => by
    show (a.s == b.s) = true ↔ a = b
    rw [beq_iff_eq]; exact ⟨Name.ext', fun h => by rw [h]⟩
  pu := fun a => pure_str _
  nx := fun _ => rfl
  inj := fun a b h => Name.d_inj h
  flat := fun _ => rfl
  eqv := fun a b => by
    show decide (b.s = a.s) = true ↔ a = b
    rw [decide_eq_true_eq]
    exact ⟨fun h => Name.ext' h.symm, fun h => by rw [h]⟩
instance : EncD Unit where
  en := fun _ => .non
  dep := 0
  gd := fun _ => gd_non
  deq := fun a b => by simp [deqD]
  pu := fun _ => pure_non
  nx := fun _ => rfl
  inj := fun _ _ _ => rfl
/-- a tuple of any length -/
structure Vt (α : Type) where
  l : List α
  deriving DecidableEq
/-- a list or a tuple -/
structure Sq (α : Type) where
  t : Bool
  l : List α
  deriving DecidableEq
structure T1 (α : Type) where
  a : α
  deriving DecidableEq
structure T2 (α β : Type) where
  a : α
  b : β
  deriving DecidableEq
structure T3 (α β γ : Type) where
  a : α
  b : β
  c : γ
  deriving DecidableEq
structure T4 (α β γ δ : Type) where
  a : α
  b : β
  c : γ
  d : δ
  deriving DecidableEq
section
variable {α β γ δ : Type}
theorem deqDs_map [EncD α] : ∀ l m : List α, deqDs (l.map en) (m.map en) = true ↔ l = m
  | [], [] => by simp [deqDs]
  | [], b :: m => by simp [deqDs]
  | a :: l, [] => by simp [deqDs]
  | a :: l, b :: m => by simp [deqDs, EncD.deq, deqDs_map l m]
theorem map_en_inj [EncD α] : ∀ l m : List α, l.map en = m.map en → l = m
  | [], [], _ => rfl
  | [], b :: m, h => by cases h
  | a :: l, [], h => by cases h
  | a :: l, b :: m, h => by
    rw [List.map_cons, List.map_cons, List.cons.injEq] at h
    rw [EncD.inj _ _ h.1, map_en_inj l m h.2]
theorem noxs_map [EncD α] : ∀ l : List α, noxs (l.map en) = true
  | [] => rfl
  | a :: l => by simp [noxs, EncD.nx, noxs_map l]
theorem pures_en [EncD α] (l : List α) : Pures (l.map en) := pures_map (fun a => EncD.pu a) l
theorem gds_en [EncD α] (l : List α) : ∀ x ∈ l.map en, Gd (EncD.dep α) x := gd_map fun a _ => EncD.gd a
instance [EncD α] : EncD (List α) where
  en l := .lst (l.map en)
  dep := EncD.dep α + 1
  gd l := gd_lst (gds_en l)
  deq a b := by
    show deqDs (a.map en) (b.map en) = true ↔ a = b
    exact deqDs_map a b
  pu l := pure_lst (pures_en l)
  nx l := noxs_map l
  inj a b h := map_en_inj a b (D.lst.inj h)
instance [EncD α] : EncD (Vt α) where
  en l := .tup (l.l.map en)
  dep := EncD.dep α + 1
  gd l := gd_tup (gds_en l.l)
  deq a b := by
    show deqDs (a.l.map en) (b.l.map en) = true ↔ a = b
    rw [deqDs_map]
    cases a; cases b; simp
  pu l := pure_tup (pures_en l.l)
  nx l := noxs_map l.l
  inj a b h := by
    have := map_en_inj a.l b.l (D.tup.inj h)
    cases a; cases b; simp_all
def Sq.d [EncD α] (x : Sq α) : D := if x.t = true then .tup (x.l.map en) else .lst (x.l.map en)
instance [EncD α] : EncD (Sq α) where
  en := Sq.d
  dep := EncD.dep α + 1
  gd x := by
    unfold Sq.d; split
    · exact gd_tup (gds_en x.l)
    · exact gd_lst (gds_en x.l)
  deq a b := by
    obtain ⟨t, a⟩ := a; obtain ⟨u, b⟩ := b
    cases t <;> cases u <;> simp [Sq.d, deqD, deqDs_map]
  pu x := by
    unfold Sq.d; split
    · exact pure_tup (pures_en x.l)
    · exact pure_lst (pures_en x.l)
  nx x := by
    unfold Sq.d; split <;> exact noxs_map x.l
  inj a b h := by
    obtain ⟨t, a⟩ := a; obtain ⟨u, b⟩ := b
    cases t <;> cases u <;> simp [Sq.d] at h
    · rw [map_en_inj a b h]
    · rw [map_en_inj a b h]
instance [EncD α] : EncD (T1 α) where
  en x := .tup [en x.a]
  dep := EncD.dep α + 1
  gd x := gd_tup (gd_cons (EncD.gd x.a) gd_nil)
  deq a b := by
    show deqDs [en a.a] [en b.a] = true ↔ a = b
    cases a; cases b; simp [deqDs, EncD.deq]
  pu x := pure_tup (pures_cons (EncD.pu x.a) pures_nil)
  nx x := by show noxs [en x.a] = true; simp [noxs, EncD.nx]
  inj a b h := by
    obtain ⟨a⟩ := a; obtain ⟨b⟩ := b
    have h := D.tup.inj h
    simp only [List.cons.injEq] at h
    rw [EncD.inj _ _ h.1]
instance [EncD α] [EncD β] : EncD (T2 α β) where
  en x := .tup [en x.a, en x.b]
  dep := max (EncD.dep α) (EncD.dep β) + 1
  gd x := gd_tup (gd_cons ((EncD.gd x.a).mono (Nat.le_max_left ..)) (gd_cons ((EncD.gd x.b).mono (Nat.le_max_right ..)) gd_nil))
  deq a b := by
    show deqDs [en a.a, en a.b] [en b.a, en b.b] = true ↔ a = b
    cases a; cases b; simp [deqDs, EncD.deq]
  pu x := pure_tup (pures_cons (EncD.pu x.a) (pures_cons (EncD.pu x.b) pures_nil))
  nx x := by show noxs [en x.a, en x.b] = true; simp [noxs, EncD.nx]
  inj a b h := by
    obtain ⟨a, a2⟩ := a; obtain ⟨b, b2⟩ := b
    have h := D.tup.inj h
    simp only [List.cons.injEq] at h
    rw [EncD.inj _ _ h.1, EncD.inj _ _ h.2.1]
instance [EncD α] [EncD β] [EncD γ] : EncD (T3 α β γ) where
  en x := .tup [en x.a, en x.b, en x.c]
  dep := max (EncD.dep α) (max (EncD.dep β) (EncD.dep γ)) + 1
  gd x := gd_tup (gd_cons ((EncD.gd x.a).mono (by omega)) (gd_cons ((EncD.gd x.b).mono (by omega)) (gd_cons ((EncD.gd x.c).mono (by omega)) gd_nil)))
  deq a b := by
    show deqDs [en a.a, en a.b, en a.c] [en b.a, en b.b, en b.c] = true ↔ a = b
    cases a; cases b; simp [deqDs, EncD.deq]
  pu x := pure_tup (pures_cons (EncD.pu x.a) (pures_cons (EncD.pu x.b) (pures_cons (EncD.pu x.c) pures_nil)))
  nx x := by show noxs [en x.a, en x.b, en x.c] = true; simp [noxs, EncD.nx]
  inj a b h := by
    obtain ⟨a, a2, a3⟩ := a; obtain ⟨b, b2, b3⟩ := b
    have h := D.tup.inj h
    simp only [List.cons.injEq] at h
    rw [EncD.inj _ _ h.1, EncD.inj _ _ h.2.1, EncD.inj _ _ h.2.2.1]
instance [EncD α] [EncD β] [EncD γ] [EncD δ] : EncD (T4 α β γ δ) where
  en x := .tup [en x.a, en x.b, en x.c, en x.d]
  dep := max (EncD.dep α) (max (EncD.dep β) (max (EncD.dep γ) (EncD.dep δ))) + 1
  gd x := gd_tup (gd_cons ((EncD.gd x.a).mono (by omega)) (gd_cons ((EncD.gd x.b).mono (by omega)) (gd_cons ((EncD.gd x.c).mono (by omega)) (gd_cons ((EncD.gd x.d).mono (by omega)) gd_nil))))
  deq a b := by
    show deqDs [en a.a, en a.b, en a.c, en a.d] [en b.a, en b.b, en b.c, en b.d] = true ↔ a = b
    cases a; cases b; simp [deqDs, EncD.deq]
  pu x := pure_tup (pures_cons (EncD.pu x.a) (pures_cons (EncD.pu x.b) (pures_cons (EncD.pu x.c) (pures_cons (EncD.pu x.d) pures_nil))))
  nx x := by show noxs [en x.a, en x.b, en x.c, en x.d] = true; simp [noxs, EncD.nx]
  inj a b h := by
    obtain ⟨a, a2, a3, a4⟩ := a; obtain ⟨b, b2, b3, b4⟩ := b
    have h := D.tup.inj h
    simp only [List.cons.injEq] at h
    rw [EncD.inj _ _ h.1, EncD.inj _ _ h.2.1, EncD.inj _ _ h.2.2.1, EncD.inj _ _ h.2.2.2.1]
end
/-- None or a value -/
instance {α : Type} [EncD α] : Enc (Option α) where
  en x := match x with
    | none => .non
    | some a => en a
/-- data of any form -/
structure Dat where
  d : D
  gd : Gd 12 d
  pu : Pure d
  nx : nox d = true
instance : Enc Dat := ⟨Dat.d⟩
def Dat.of {α : Type} [EncD α] (a : α) (h : EncD.dep α ≤ 12 := by decide) : Dat := ⟨en a, (EncD.gd a).mono h, EncD.pu a, EncD.nx a⟩
def Dat.eq (a b : Dat) : Bool := deqD a.d b.d
/-! ### dicts -/
section
variable {κ α : Type} [DecidableEq κ]
def look (l : List (κ × α)) (k : κ) : Option α := (l.find? fun p => decide (p.1 = k)).map (·.2)
def put (l : List (κ × α)) (k : κ) (v : α) : List (κ × α) := if (look l k).isSome then l.map fun p => if p.1 = k then (p.1, v) else p else l ++ [(k, v)]
end
/-- a dict: its keys each once, in order -/
structure Dc (κ α : Type) where
  l : List (κ × α)
/-- data that may be keys within a tuple -/
class EncN (κ : Type) extends EncD κ where
  kd : Nat
  kn : κ → NestedKey
  kn_ok : ∀ a, keyN (en a) = some (kn a)
  kn_dep : ∀ a, (kn a).depth ≤ kd
  kn_inj : ∀ a b, kn a = kn b → a = b
/-- the keys of a dict: texts and ints, or tuples -/
class EncK (κ : Type) extends EncD κ where
  t : Bool
  get : ∀ (l : List (κ × D)) (k : κ) [DecidableEq κ], dgetD t (l.map fun p => (en p.1, p.2)) (en k) = some (look l k)
  put : ∀ (l : List (κ × D)) (k : κ) (v : D) [DecidableEq κ], dputD t (l.map fun p => (en p.1, p.2)) (en k) v = some ((put l k v).map fun p => (en p.1, p.2))
section
variable {κ α β γ : Type}
theorem find_map {l : List (κ × D)} {f : κ → D} {P : D × D → Bool} {Q : κ × D → Bool} (h : ∀ p, P (f p.1, p.2) = Q p) : ((l.map fun p => (f p.1, p.2)).find? P).map (·.2) = (l.find? Q).map (·.2) := by
  induction l with
  | nil => rfl
  | cons p l ih =>
    rw [List.map_cons]
    by_cases q : Q p = true
    · rw [List.find?_cons_of_pos (by rw [h]; exact q), List.find?_cons_of_pos q]; rfl
    · rw [List.find?_cons_of_neg (by rw [h]; exact q), List.find?_cons_of_neg q, ih]
theorem put_map [DecidableEq κ] {l : List (κ × D)} {k : κ} {v : D} {f : κ → D} {P : D × D → Bool} {R : D → Prop} [DecidablePred R] (h : ∀ p : κ × D, P (f p.1, p.2) = decide (p.1 = k)) (hR : ∀ a : κ, R (f a) ↔ a = k) :
    (if ((l.map fun p => (f p.1, p.2)).find? P).isSome then (l.map fun p => (f p.1, p.2)).map fun p => if R p.1 then (p.1, v) else p else (l.map fun p => (f p.1, p.2)) ++ [(f k, v)]) = (put l k v).map fun p => (f p.1, p.2) := by
  have e := find_map (l := l) (f := f) (P := P) (Q := fun p => decide (p.1 = k)) h
  have e2 : ((l.map fun p => (f p.1, p.2)).find? P).isSome = (look l k).isSome := by
    have := congrArg Option.isSome e
    rwa [Option.isSome_map, Option.isSome_map, ← Option.isSome_map (f := (·.2)) (x := l.find? _)] at this
  rw [e2]
  unfold FV.put
  split
  · rw [List.map_map, List.map_map]
    apply List.map_congr_left
    intro p _
    show (if R (f p.1) then (f p.1, v) else (f p.1, p.2)) = (fun p : κ × D => (f p.1, p.2)) (if p.1 = k then (p.1, v) else p)
    by_cases q : p.1 = k
    · rw [if_pos ((hR _).mpr q), if_pos q]
    · rw [if_neg (fun z => q ((hR _).mp z)), if_neg q]
  · rw [List.map_append]; rfl
instance : EncK Name where
  t := false
  get l k _ := by
    show some _ = some _
    rw [find_map (Q := fun p => decide (p.1 = k))]
    · rfl
    · intro p
      rw [decide_eq_decide]
      exact ⟨fun h => Name.d_inj h, fun h => by subst h; rfl⟩
  put l k v _ := by
    show some _ = some _
    exact congrArg some (put_map (R := fun x => x = .str k.s) (fun p => by
      rw [decide_eq_decide]
      exact ⟨fun h => Name.d_inj h, fun h => by subst h; rfl⟩) fun a => ⟨fun h => Name.d_inj h, fun h => by rw [h]; rfl⟩)
instance : EncK Int where
  t := false
  get l k _ := by
    show some _ = some _
    rw [find_map (Q := fun p => decide (p.1 = k))]
    · rfl
    · intro p
      rw [decide_eq_decide]
      exact ⟨fun h => D.int.inj h, fun h => by subst h; rfl⟩
  put l k v _ := by
    show some _ = some _
    exact congrArg some (put_map (R := fun x => x = .int k) (fun p => by
      rw [decide_eq_decide]
      exact ⟨fun h => D.int.inj h, fun h => by subst h; rfl⟩) fun a => ⟨fun h => D.int.inj h, fun h => by rw [h]; rfl⟩)
instance : EncN Int where
  kd := 0
  kn := .num
  kn_ok _ := rfl
  kn_dep _ := Nat.le_refl _
  kn_inj a b h := NestedKey.num.inj h
instance : EncN Name where
  kd := 0
  kn a := .text a.s
  kn_ok _ := rfl
  kn_dep _ := Nat.le_refl _
  kn_inj a b h := Name.ext' (NestedKey.text.inj h)
end
section
variable {κ α β γ : Type}
theorem kns_map [EncN α] : ∀ l : List α, keyNs (l.map en) = some (l.map EncN.kn)
  | [] => rfl
  | a :: l => by simp [keyNs, EncN.kn_ok, kns_map l]
theorem kds_map [EncN α] : ∀ l : List α, NestedKey.depthAll (l.map EncN.kn) ≤ EncN.kd α
  | [] => by simp [NestedKey.depthAll]
  | a :: l => by
    have h1 := EncN.kn_dep a
    have h2 := kds_map l
    simp only [List.map_cons, NestedKey.depthAll]
    omega
theorem kns_inj [EncN α] : ∀ l m : List α, l.map EncN.kn = m.map EncN.kn → l = m
  | [], [], _ => rfl
  | [], b :: m, h => by cases h
  | a :: l, [], h => by cases h
  | a :: l, b :: m, h => by
    rw [List.map_cons, List.map_cons, List.cons.injEq] at h
    rw [EncN.kn_inj _ _ h.1, kns_inj l m h.2]
instance [EncN α] : EncN (Vt α) where
  kd := EncN.kd α + 1
  kn x := .tup (x.l.map EncN.kn)
  kn_ok x := by
    show (keyNs (x.l.map en)).map NestedKey.tup = _
    rw [kns_map]; rfl
  kn_dep x := by
    have := kds_map x.l
    show NestedKey.depthAll _ + 1 ≤ _
    omega
  kn_inj a b h := by
    have := kns_inj a.l b.l (NestedKey.tup.inj h)
    cases a; cases b; simp_all
instance [EncN α] [EncN β] : EncN (T2 α β) where
  kd := max (EncN.kd α) (EncN.kd β) + 1
  kn x := .tup [EncN.kn x.a, EncN.kn x.b]
  kn_ok x := by
    show (keyNs [en x.a, en x.b]).map NestedKey.tup = _
    simp [keyNs, EncN.kn_ok]
  kn_dep x := by
    have h1 := EncN.kn_dep x.a
    have h2 := EncN.kn_dep x.b
    show NestedKey.depthAll [_, _] + 1 ≤ _
    simp only [NestedKey.depthAll]
    omega
  kn_inj a b h := by
    obtain ⟨a, a2⟩ := a; obtain ⟨b, b2⟩ := b
    have h := NestedKey.tup.inj h
    simp only [List.cons.injEq] at h
    rw [EncN.kn_inj _ _ h.1, EncN.kn_inj _ _ h.2.1]
instance [EncN α] [EncN β] [EncN γ] : EncN (T3 α β γ) where
  kd := max (EncN.kd α) (max (EncN.kd β) (EncN.kd γ)) + 1
  kn x := .tup [EncN.kn x.a, EncN.kn x.b, EncN.kn x.c]
  kn_ok x := by
    show (keyNs [en x.a, en x.b, en x.c]).map NestedKey.tup = _
    simp [keyNs, EncN.kn_ok]
  kn_dep x := by
    have h1 := EncN.kn_dep x.a
    have h2 := EncN.kn_dep x.b
    have h3 := EncN.kn_dep x.c
    show NestedKey.depthAll [_, _, _] + 1 ≤ _
    simp only [NestedKey.depthAll]
    omega
  kn_inj a b h := by
    obtain ⟨a, a2, a3⟩ := a; obtain ⟨b, b2, b3⟩ := b
    have h := NestedKey.tup.inj h
    simp only [List.cons.injEq] at h
    rw [EncN.kn_inj _ _ h.1, EncN.kn_inj _ _ h.2.1, EncN.kn_inj _ _ h.2.2.1]
/-- keys that are tuples -/
abbrev encKT [EncN κ] (h : EncN.kd κ ≤ 8) (ht : ∀ a : κ, ∃ xs, en a = .tup xs) : EncK κ where
  t := true
  get l k _ := by
    obtain ⟨xs, hx⟩ := ht k
    have hq := EncN.kn_ok k
    have hd : (EncN.kn k).depth ≤ 8 := Nat.le_trans (EncN.kn_dep k) h
    rw [hx] at hq ⊢
    unfold dgetD
    dsimp only
    rw [hq]
    dsimp only
    rw [if_pos hd, find_map (Q := fun p => decide (p.1 = k))]
    · rfl
    · intro p
      dsimp only
      rw [EncN.kn_ok, decide_eq_decide, Option.some.injEq]
      exact ⟨fun e => EncN.kn_inj _ _ e, fun e => by subst e; rfl⟩
  put l k v _ := by
    obtain ⟨xs, hx⟩ := ht k
    have hq := EncN.kn_ok k
    have hd : (EncN.kn k).depth ≤ 8 := Nat.le_trans (EncN.kn_dep k) h
    have := put_map (l := l) (k := k) (v := v) (f := en) (P := fun p : D × D => decide (keyN p.1 = some (EncN.kn k))) (R := fun x => keyN x = some (EncN.kn k)) (fun p => by
      rw [EncN.kn_ok, decide_eq_decide, Option.some.injEq]
      exact ⟨fun e => EncN.kn_inj _ _ e, fun e => by subst e; rfl⟩) (fun a => by
      rw [EncN.kn_ok, Option.some.injEq]
      exact ⟨fun e => EncN.kn_inj _ _ e, fun e => by subst e; rfl⟩)
    rw [← this, hx]
    rw [hx] at hq
    unfold dputD
    dsimp only
    rw [hq]
    dsimp only
    rw [if_pos hd]
instance [EncK κ] [Enc α] : Enc (Dc κ α) where
  en x := .dct (EncK.t κ) (x.l.map fun p => (en p.1, en p.2))
/-- the dict's pairs, the values encoded -/
theorem dct_en [EncK κ] [Enc α] (l : List (κ × α)) : (l.map fun p => (en p.1, en p.2)) = (l.map fun p => (p.1, en p.2)).map fun p : κ × D => (en p.1, p.2) := by
  rw [List.map_map]; rfl
theorem look_map {f : α → β} [DecidableEq κ] (l : List (κ × α)) (k : κ) : look (l.map fun p => (p.1, f p.2)) k = (look l k).map f := by
  unfold look
  induction l with
  | nil => rfl
  | cons p l ih =>
    rw [List.map_cons]
    by_cases q : p.1 = k
    · rw [List.find?_cons_of_pos (by simpa using q), List.find?_cons_of_pos (by simpa using q)]; rfl
    · rw [List.find?_cons_of_neg (by simpa using q), List.find?_cons_of_neg (by simpa using q), ih]
theorem put_mapv {f : α → β} [DecidableEq κ] (l : List (κ × α)) (k : κ) (v : α) : put (l.map fun p => (p.1, f p.2)) k (f v) = (put l k v).map fun p => (p.1, f p.2) := by
  unfold put
  rw [look_map, Option.isSome_map]
  split
  · rw [List.map_map, List.map_map]
    apply List.map_congr_left
    intro p _
    show (if p.1 = k then (p.1, f v) else (p.1, f p.2)) = (fun p : κ × α => (p.1, f p.2)) (if p.1 = k then (p.1, v) else p)
    split <;> rfl
  · rw [List.map_append]; rfl
theorem dget_en [EncK κ] [Enc α] [DecidableEq κ] (l : List (κ × α)) (k : κ) : dgetD (EncK.t κ) (l.map fun p => (en p.1, en p.2)) (en k) = some ((look l k).map en) := by
  rw [dct_en, EncK.get, look_map]
theorem dput_en [EncK κ] [Enc α] [DecidableEq κ] (l : List (κ × α)) (k : κ) (v : α) : dputD (EncK.t κ) (l.map fun p => (en p.1, en p.2)) (en k) (en v) = some ((put l k v).map fun p => (en p.1, en p.2)) := by
  rw [dct_en, EncK.put, put_mapv, ← dct_en]
theorem put_len [DecidableEq κ] (l : List (κ × α)) (k : κ) (v : α) : (put l k v).length ≤ l.length + 1 := by
  unfold put; split
  · rw [List.length_map]; omega
  · simp
end
instance : EncK (T2 Name Name) := encKT (by decide) fun _ => ⟨_, rfl⟩
end FV

set_option Elab.async false
set_option linter.all false
set_option maxRecDepth 100000
set_option maxHeartbeats 4000000
namespace FV
open PySem PySem.Spec PyProof.Rows L2 Enc

/-! ## typed outcomes -/
inductive RS (Z α : Type) where
  | ok (a : α) (s : Z)
  | exc (c : Nat) (fs : List (Nat × D)) (s : Z)
  | bad
inductive TSt (Z σ τ α : Type) where
  | nx (v : σ) (s : Z)
  | bk (v : τ) (s : Z)
  | ct (v : τ) (s : Z)
  | rt (a : α) (s : Z)
  | exc (c : Nat) (fs : List (Nat × D)) (s : Z)
  | bad
section
variable {Z σ σ' τ α β : Type}
def RS.bind (t : RS Z α) (k : α → Z → RS Z β) : RS Z β := match t with
  | .ok a s => k a s
  | .exc c fs s => .exc c fs s
  | .bad => .bad
def RS.bindS (t : RS Z α) (k : α → Z → TSt Z σ τ β) : TSt Z σ τ β := match t with
  | .ok a s => k a s
  | .exc c fs s => .exc c fs s
  | .bad => .bad
/-- of a def that changes nothing, in any state -/
def RS.at (t : RS Unit α) (s : Z) : RS Z α := match t with
  | .ok a _ => .ok a s
  | .exc c fs _ => .exc c fs s
  | .bad => .bad
def TSt.andThen (t : TSt Z σ τ α) (k : σ → Z → TSt Z σ' τ α) : TSt Z σ' τ α := match t with
  | .nx v s => k v s
  | .bk v s => .bk v s
  | .ct v s => .ct v s
  | .rt a s => .rt a s
  | .exc c fs s => .exc c fs s
  | .bad => .bad
def TSt.catch (t : TSt Z σ τ α) (k : Nat → List (Nat × D) → Z → TSt Z σ τ α) : TSt Z σ τ α := match t with
  | .exc c fs s => k c fs s
  | t => t
def TSt.fin (t : TSt Z σ τ α) : RS Z α := match t with
  | .rt a s => .ok a s
  | .exc c fs s => .exc c fs s
  | _ => .bad
def TSt.finN (t : TSt Z σ τ Unit) : RS Z Unit := match t with
  | .nx _ s => .ok () s
  | .rt a s => .ok a s
  | .exc c fs s => .exc c fs s
  | _ => .bad
def forT (body : β → σ → Z → TSt Z σ σ α) : List β → σ → Z → TSt Z σ τ α
  | [], v, s => .nx v s
  | x :: xs, v, s => match body x v s with
    | .nx v s => forT body xs v s
    | .ct v s => forT body xs v s
    | .bk v s => .nx v s
    | .rt a s => .rt a s
    | .exc c fs s => .exc c fs s
    | .bad => .bad
def whileT (c : σ → Z → RS Z Bool) (body : σ → Z → TSt Z σ σ α) : Nat → σ → Z → TSt Z σ τ α
  | 0, _, _ => .bad
  | n + 1, v, s => match c v s with
    | .ok true s => (match body v s with
      | .nx v s => whileT c body n v s
      | .ct v s => whileT c body n v s
      | .bk v s => .nx v s
      | .rt a s => .rt a s
      | .exc c fs s => .exc c fs s
      | .bad => .bad)
    | .ok false s => .nx v s
    | .exc c fs s => .exc c fs s
    | .bad => .bad
@[simp] theorem RS.bind_ok {a : α} {s : Z} {k : α → Z → RS Z β} : (RS.ok a s).bind k = k a s := id rfl
@[simp] theorem RS.bind_exc {c : Nat} {fs} {s : Z} {k : α → Z → RS Z β} : (RS.exc c fs s : RS Z α).bind k = .exc c fs s := id rfl
@[simp] theorem RS.bind_bad {k : α → Z → RS Z β} : (RS.bad : RS Z α).bind k = .bad := id rfl
@[simp] theorem RS.bindS_ok {a : α} {s : Z} {k : α → Z → TSt Z σ τ β} : (RS.ok a s).bindS k = k a s := id rfl
@[simp] theorem RS.bindS_exc {c : Nat} {fs} {s : Z} {k : α → Z → TSt Z σ τ β} : (RS.exc c fs s : RS Z α).bindS k = .exc c fs s := id rfl
@[simp] theorem RS.bindS_bad {k : α → Z → TSt Z σ τ β} : (RS.bad : RS Z α).bindS k = .bad := id rfl
@[simp] theorem RS.at_ok {a : α} {u : Unit} {s : Z} : (RS.ok a u).at s = .ok a s := id rfl
@[simp] theorem RS.at_exc {c : Nat} {fs} {u : Unit} {s : Z} : (RS.exc c fs u : RS Unit α).at s = .exc c fs s := id rfl
@[simp] theorem RS.at_bad {s : Z} : (RS.bad : RS Unit α).at s = .bad := id rfl
@[simp] theorem TSt.andThen_nx {v : σ} {s : Z} {k : σ → Z → TSt Z σ' τ α} : (TSt.nx v s).andThen k = k v s := id rfl
@[simp] theorem TSt.andThen_bk {v : τ} {s : Z} {k : σ → Z → TSt Z σ' τ α} : (TSt.bk v s : TSt Z σ τ α).andThen k = .bk v s := id rfl
@[simp] theorem TSt.andThen_ct {v : τ} {s : Z} {k : σ → Z → TSt Z σ' τ α} : (TSt.ct v s : TSt Z σ τ α).andThen k = .ct v s := id rfl
@[simp] theorem TSt.andThen_rt {a : α} {s : Z} {k : σ → Z → TSt Z σ' τ α} : (TSt.rt a s : TSt Z σ τ α).andThen k = .rt a s := id rfl
@[simp] theorem TSt.andThen_exc {c : Nat} {fs} {s : Z} {k : σ → Z → TSt Z σ' τ α} : (TSt.exc c fs s : TSt Z σ τ α).andThen k = .exc c fs s := id rfl
@[simp] theorem TSt.andThen_bad {k : σ → Z → TSt Z σ' τ α} : (TSt.bad : TSt Z σ τ α).andThen k = .bad := id rfl
@[simp] theorem TSt.catch_exc {c : Nat} {fs} {s : Z} {k : Nat → List (Nat × D) → Z → TSt Z σ τ α} : (TSt.exc c fs s : TSt Z σ τ α).catch k = k c fs s := id rfl
@[simp] theorem TSt.catch_nx {v : σ} {s : Z} {k : Nat → List (Nat × D) → Z → TSt Z σ τ α} : (TSt.nx v s : TSt Z σ τ α).catch k = .nx v s := id rfl
@[simp] theorem TSt.catch_rt {a : α} {s : Z} {k : Nat → List (Nat × D) → Z → TSt Z σ τ α} : (TSt.rt a s : TSt Z σ τ α).catch k = .rt a s := id rfl
@[simp] theorem TSt.fin_rt {a : α} {s : Z} : (TSt.rt a s : TSt Z σ τ α).fin = .ok a s := id rfl
@[simp] theorem TSt.fin_exc {c : Nat} {fs} {s : Z} : (TSt.exc c fs s : TSt Z σ τ α).fin = .exc c fs s := id rfl
@[simp] theorem TSt.fin_nx {v : σ} {s : Z} : (TSt.nx v s : TSt Z σ τ α).fin = .bad := id rfl
@[simp] theorem TSt.fin_bad : (TSt.bad : TSt Z σ τ α).fin = .bad := id rfl
@[simp] theorem TSt.finN_rt {a : Unit} {s : Z} : (TSt.rt a s : TSt Z σ τ Unit).finN = .ok a s := id rfl
@[simp] theorem TSt.finN_exc {c : Nat} {fs} {s : Z} : (TSt.exc c fs s : TSt Z σ τ Unit).finN = .exc c fs s := id rfl
@[simp] theorem TSt.finN_nx {v : σ} {s : Z} : (TSt.nx v s : TSt Z σ τ Unit).finN = .ok () s := id rfl
@[simp] theorem TSt.finN_bad : (TSt.bad : TSt Z σ τ Unit).finN = .bad := id rfl
theorem fin_ite {c : Prop} [Decidable c] {a b : TSt Z σ τ α} : (if c then a else b).fin = if c then a.fin else b.fin := by split <;> rfl
theorem finN_ite {c : Prop} [Decidable c] {a b : TSt Z σ τ Unit} : (if c then a else b).finN = if c then a.finN else b.finN := by split <;> rfl
end

/-! ## judgements -/
section
variable {Z σ σ' τ α β γ δ δ' : Type}
/-- an error's data hold no reference -/
def PF (fs : List (Nat × D)) : Prop := ∀ lo lk, rsf lo lk fs = some fs
theorem pf_nil : PF [] := fun _ _ => rfl
theorem pf_cons {k : Nat} {d : D} {fs : List (Nat × D)} (h : Pure d) (p : PF fs) : PF ((k, d) :: fs) := fun lo lk => by
  show (rs lo lk d).bind (fun b => (rsf lo lk fs).map fun c => (k, b) :: c) = _
  rw [h lo lk, p lo lk]; rfl
/-- r is t told in the store S -/
def TJ (ι : α → δ) (S : Z → DSto) (r : DRes δ) (t : RS Z α) : Prop := match t with
  | .ok a s => r = .ok (ι a) (S s)
  | .exc c fs s => r = .exc c fs (S s) ∧ PF fs
  | .bad => True
abbrev TE [Enc α] (S : Z → DSto) (r : DRes D) (t : RS Z α) : Prop := TJ en S r t
abbrev NR (Z σ : Type) := σ → Z → DEnv → DSto → Prop
abbrev RR (Z α : Type) := α → Z → D → DSto → Prop
abbrev XR (Z : Type) := List (Nat × D) → Z → DEnv → DSto → Prop
def TS (N : NR Z σ) (B : NR Z τ) (R : RR Z α) (X : XR Z) (r : DStm) (t : TSt Z σ τ α) : Prop := match t with
  | .nx v s => ∃ ρ st, r = .nx ρ st ∧ N v s ρ st
  | .bk v s => ∃ ρ st, r = .bk ρ st ∧ B v s ρ st
  | .ct v s => ∃ ρ st, r = .ct ρ st ∧ B v s ρ st
  | .rt a s => ∃ d st, r = .rt d st ∧ R a s d st
  | .exc c fs s => ∃ ρ st, r = .exc c fs ρ st ∧ X fs s ρ st
  | .bad => True
/-- at the end stand these slots, this store -/
def NE (E : σ → DEnv) (S : σ → Z → DSto) : NR Z σ := fun v s ρ st => ρ = E v ∧ st = S v s
/-- the end is not reached -/
def NF : NR Z σ := fun _ _ _ _ => False
variable {ι : α → δ} {ι' : β → δ'} {S : Z → DSto} {s : Z} {st st' : DSto} {ρ : DEnv} {N : NR Z σ} {B : NR Z τ} {R : RR Z α} {X : XR Z}

/-! ### results -/
theorem tj_ok {r : DRes δ} {a : α} (h : r = .ok (ι a) (S s)) : TJ ι S r (.ok a s) := h
theorem tj_V {x : δ'} {r : DRes δ'} {K : δ' → DSto → DRes δ} {t : RS Z α} (h : r = .ok x st) (k : TJ ι S (K x st) t) : TJ ι S (r.bind K) t := by rw [h]; exact k
theorem tj_C {r : DRes δ'} {K : δ' → DSto → DRes δ} {ta : RS Z β} {t : β → Z → RS Z α} (h : TJ ι' S r ta) (k : ∀ a s, TJ ι S (K (ι' a) (S s)) (t a s)) : TJ ι S (r.bind K) (ta.bind t) := by
  cases ta with
  | ok a s => rw [show r = _ from h]; exact k a s
  | exc c fs s => rw [show r = _ from h.1]; exact ⟨rfl, h.2⟩
  | bad => trivial
theorem tj_ite {k : Bool} {r1 r2 : DRes δ} {t1 t2 : RS Z α} (h1 : k = true → TJ ι S r1 t1) (h2 : k = false → TJ ι S r2 t2) : TJ ι S (if k = true then r1 else r2) (if k = true then t1 else t2) := by
  cases k with
  | true => exact h1 rfl
  | false => exact h2 rfl
theorem tj_bad {r : DRes δ} : TJ ι S r .bad := trivial
theorem tj_grd {P : Prop} [Decidable P] {r : DRes δ} {t : RS Z α} (h : P → TJ ι S r t) : TJ ι S r (if P then t else .bad) := by
  by_cases q : P
  · rw [if_pos q]; exact h q
  · rw [if_neg q]; trivial
theorem tj_opt {r : DRes δ} {o : Option β} {t : β → RS Z α} (h : ∀ b, o = some b → TJ ι S r (t b)) : TJ ι S r (match o with | some b => t b | none => .bad) := by
  cases o with
  | some b => exact h b rfl
  | none => trivial
/-- a def that leaves any store as it was -/
theorem tj_at {r : DRes δ} {t : RS Unit α} (h : TJ ι (fun _ : Unit => S s) r t) : TJ ι S r (t.at s) := by
  cases t with
  | ok a u => exact h
  | exc c fs u => exact h
  | bad => trivial
theorem tj_imp {r : DRes δ} {t : RS Z α} {ι2 : α → δ} (h : TJ ι S r t) (e : ∀ a, ι a = ι2 a) : TJ ι2 S r t := by
  have : ι = ι2 := funext e
  subst this; exact h

/-! ### statements -/
theorem ts_nx {v : σ} (h : N v s ρ st) : TS N B R X (.nx ρ st) (.nx v s) := ⟨ρ, st, rfl, h⟩
theorem ts_bk {v : τ} (h : B v s ρ st) : TS N B R X (.bk ρ st) (.bk v s) := ⟨ρ, st, rfl, h⟩
theorem ts_ct {v : τ} (h : B v s ρ st) : TS N B R X (.ct ρ st) (.ct v s) := ⟨ρ, st, rfl, h⟩
theorem ts_V {x : δ'} {r : DRes δ'} {f : δ' → DSto → DStm} {t : TSt Z σ τ α} (h : r = .ok x st) (k : TS N B R X (f x st) t) : TS N B R X (r.toS ρ f) t := by rw [h]; exact k
theorem ts_C {r : DRes δ'} {f : δ' → DSto → DStm} {ta : RS Z β} {t : β → Z → TSt Z σ τ α} (h : TJ ι' S r ta) (hx : ∀ fs s, PF fs → X fs s ρ (S s)) (k : ∀ a s, TS N B R X (f (ι' a) (S s)) (t a s)) : TS N B R X (r.toS ρ f) (ta.bindS t) := by
  cases ta with
  | ok a s => rw [show r = _ from h]; exact k a s
  | exc c fs s => rw [show r = _ from h.1]; exact ⟨_, _, rfl, hx _ _ h.2⟩
  | bad => trivial
theorem ts_ite {k : Bool} {r1 r2 : DStm} {t1 t2 : TSt Z σ τ α} (h1 : k = true → TS N B R X r1 t1) (h2 : k = false → TS N B R X r2 t2) : TS N B R X (if k = true then r1 else r2) (if k = true then t1 else t2) := by
  cases k with
  | true => exact h1 rfl
  | false => exact h2 rfl
theorem ts_grd {P : Prop} [Decidable P] {r : DStm} {t : TSt Z σ τ α} (h : P → TS N B R X r t) : TS N B R X r (if P then t else .bad) := by
  by_cases q : P
  · rw [if_pos q]; exact h q
  · rw [if_neg q]; trivial
theorem ts_bad {r : DStm} : TS N B R X r .bad := trivial
theorem ts_seq {σ₁ : Type} {E : σ₁ → DEnv} {S₁ : σ₁ → Z → DSto} {r : DStm} {b : DenS} {ta : TSt Z σ₁ τ α} {t : σ₁ → Z → TSt Z σ τ α} (h : TS (NE E S₁) B R X r ta) (k : ∀ v s, TS N B R X (b (E v) (S₁ v s)) (t v s)) : TS N B R X (r.andThen b) (ta.andThen t) := by
  cases ta with
  | nx v s => obtain ⟨ρ, st, rfl, rfl, rfl⟩ := h; exact k v s
  | bk v s => obtain ⟨ρ, st, rfl, h⟩ := h; exact ⟨_, _, rfl, h⟩
  | ct v s => obtain ⟨ρ, st, rfl, h⟩ := h; exact ⟨_, _, rfl, h⟩
  | rt a s => obtain ⟨ρ, st, rfl, h⟩ := h; exact ⟨_, _, rfl, h⟩
  | exc c fs s => obtain ⟨ρ, st, rfl, h⟩ := h; exact ⟨_, _, rfl, h⟩
  | bad => trivial
/-- a statement that goes on in one way alone -/
theorem ts_then {r : DStm} {b : DenS} {t : TSt Z σ τ α} (h : r = .nx ρ st) (k : TS N B R X (b ρ st) t) : TS N B R X (r.andThen b) t := by rw [h]; exact k
/-- x = e; the rest -/
theorem ts_asgV {i : Nat} {d : Den} {x : D} {b : DenS} {t : TSt Z σ τ α} (h : d ρ st = .ok x st') (k : TS N B R X (b (ρ.set i (some x)) st') t) : TS N B R X (dSeq (dAsg i d) b ρ st) t := by
  show TS N B R X (((d ρ st).toS ρ fun x st => .nx (ρ.set i (some x)) st).andThen b) t
  rw [h]; exact k
theorem ts_asgC {i : Nat} {d : Den} {ι' : β → D} {b : DenS} {ta : RS Z β} {t : β → Z → TSt Z σ τ α} (h : TJ ι' S (d ρ st) ta) (hx : ∀ fs s, PF fs → X fs s ρ (S s)) (k : ∀ a s, TS N B R X (b (ρ.set i (some (ι' a))) (S s)) (t a s)) : TS N B R X (dSeq (dAsg i d) b ρ st) (ta.bindS t) := by
  show TS N B R X (((d ρ st).toS ρ fun x st => .nx (ρ.set i (some x)) st).andThen b) _
  cases ta with
  | ok a s => rw [show d ρ st = _ from h]; exact k a s
  | exc c fs s => rw [show d ρ st = _ from h.1]; exact ⟨_, _, rfl, hx _ _ h.2⟩
  | bad => trivial
theorem ts_exprC {d : Den} {ι' : β → D} {b : DenS} {ta : RS Z β} {t : β → Z → TSt Z σ τ α} (h : TJ ι' S (d ρ st) ta) (hx : ∀ fs s, PF fs → X fs s ρ (S s)) (k : ∀ a s, TS N B R X (b ρ (S s)) (t a s)) : TS N B R X (dSeq (dExpr d) b ρ st) (ta.bindS t) := by
  show TS N B R X (((d ρ st).toS ρ fun x st => .nx ρ st).andThen b) _
  cases ta with
  | ok a s => rw [show d ρ st = _ from h]; exact k a s
  | exc c fs s => rw [show d ρ st = _ from h.1]; exact ⟨_, _, rfl, hx _ _ h.2⟩
  | bad => trivial
theorem ts_skip {b : DenS} {t : TSt Z σ τ α} (k : TS N B R X (b ρ st) t) : TS N B R X (dSeq dSkip b ρ st) t := k
/-- a last statement is followed by nothing -/
theorem ts_last {a : DenS} {t : TSt Z σ τ α} (k : TS N B R X (dSeq a dSkip ρ st) t) : TS N B R X (a ρ st) t := by
  have e : dSeq a dSkip ρ st = a ρ st := by
    show (a ρ st).andThen dSkip = _
    cases a ρ st <;> rfl
  rwa [e] at k
/-- the first of three -/
theorem ts_assoc {a b c : DenS} {t : TSt Z σ τ α} (k : TS N B R X (dSeq a (dSeq b c) ρ st) t) : TS N B R X (dSeq (dSeq a b) c ρ st) t := by
  have e : dSeq (dSeq a b) c ρ st = dSeq a (dSeq b c) ρ st := by
    show ((a ρ st).andThen b).andThen c = (a ρ st).andThen (dSeq b c)
    cases a ρ st <;> rfl
  rwa [e]
/-- if t: a (which does not go on); the rest -/
theorem ts_ifX {c : DenT} {k : Bool} {a b : DenS} {t1 t2 : TSt Z σ τ α} (h : c ρ st = .ok k st) (h1 : k = true → TS NF B R X (a ρ st) t1) (h2 : k = false → TS N B R X (b ρ st) t2) : TS N B R X (dSeq (dIfS c a dSkip) b ρ st) (if k = true then t1 else t2) := by
  show TS N B R X (((c ρ st).toS ρ fun k st => if k = true then a ρ st else dSkip ρ st).andThen b) _
  rw [h]
  cases k with
  | false => exact h2 rfl
  | true =>
    have h1 := h1 rfl
    show TS N B R X ((a ρ st).andThen b) t1
    cases t1 with
    | nx v s => obtain ⟨_, _, _, h⟩ := h1; exact h.elim
    | bk v s => obtain ⟨ρ, st, e, h⟩ := h1; rw [e]; exact ⟨_, _, rfl, h⟩
    | ct v s => obtain ⟨ρ, st, e, h⟩ := h1; rw [e]; exact ⟨_, _, rfl, h⟩
    | rt v s => obtain ⟨ρ, st, e, h⟩ := h1; rw [e]; exact ⟨_, _, rfl, h⟩
    | exc c fs s => obtain ⟨ρ, st, e, h⟩ := h1; rw [e]; exact ⟨_, _, rfl, h⟩
    | bad => trivial
theorem ts_ifXC {c : DenT} {tc : RS Z Bool} {a b : DenS} {t1 t2 : Z → TSt Z σ τ α} (h : TJ id S (c ρ st) tc) (hx : ∀ fs s, PF fs → X fs s ρ (S s)) (h1 : ∀ s, TS NF B R X (a ρ (S s)) (t1 s)) (h2 : ∀ s, TS N B R X (b ρ (S s)) (t2 s)) : TS N B R X (dSeq (dIfS c a dSkip) b ρ st) (tc.bindS fun k s => if k = true then t1 s else t2 s) := by
  cases tc with
  | ok k s =>
    have := ts_ifX (N := N) (X := X) (k := k) (c := fun _ st => .ok k st) (ρ := ρ) (st := S s) (a := a) (b := b) rfl (fun _ => h1 s) fun _ => h2 s
    show TS N B R X (((c ρ st).toS ρ fun k st => if k = true then a ρ st else dSkip ρ st).andThen b) _
    rw [show c ρ st = .ok k (S s) from h]
    exact this
  | exc c' fs s =>
    show TS N B R X (((c ρ st).toS ρ fun k st => if k = true then a ρ st else dSkip ρ st).andThen b) _
    rw [show c ρ st = _ from h.1]; exact ⟨_, _, rfl, hx _ _ h.2⟩
  | bad => trivial
/-- if t: a else: b, with an end of their own; the rest -/
theorem ts_ifS {σ₁ : Type} {E : σ₁ → DEnv} {S₁ : σ₁ → Z → DSto} {c : DenT} {k : Bool} {a b r : DenS} {t1 t2 : TSt Z σ₁ τ α} {t : σ₁ → Z → TSt Z σ τ α} (h : c ρ st = .ok k st) (h1 : k = true → TS (NE E S₁) B R X (a ρ st) t1) (h2 : k = false → TS (NE E S₁) B R X (b ρ st) t2)
    (hk : ∀ v s, TS N B R X (r (E v) (S₁ v s)) (t v s)) : TS N B R X (dSeq (dIfS c a b) r ρ st) ((if k = true then t1 else t2).andThen t) :=
  ts_seq (r := dIfS c a b ρ st) (ts_V (r := c ρ st) h (ts_ite h1 h2)) hk
theorem ts_ifSC {σ₁ : Type} {E : σ₁ → DEnv} {S₁ : σ₁ → Z → DSto} {c : DenT} {tc : RS Z Bool} {a b r : DenS} {t1 t2 : Z → TSt Z σ₁ τ α} {t : σ₁ → Z → TSt Z σ τ α} (h : TJ id S (c ρ st) tc) (hx : ∀ fs s, PF fs → X fs s ρ (S s)) (h1 : ∀ s, TS (NE E S₁) B R X (a ρ (S s)) (t1 s)) (h2 : ∀ s, TS (NE E S₁) B R X (b ρ (S s)) (t2 s))
    (hk : ∀ v s, TS N B R X (r (E v) (S₁ v s)) (t v s)) : TS N B R X (dSeq (dIfS c a b) r ρ st) ((tc.bindS fun k s => if k = true then t1 s else t2 s).andThen t) :=
  ts_seq (r := dIfS c a b ρ st) (ts_C (r := c ρ st) h hx fun k s => ts_ite (fun _ => h1 s) fun _ => h2 s) hk
theorem ts_if {c : DenT} {k : Bool} {a b : DenS} {t1 t2 : TSt Z σ τ α} (h : c ρ st = .ok k st) (h1 : k = true → TS N B R X (a ρ st) t1) (h2 : k = false → TS N B R X (b ρ st) t2) : TS N B R X (dIfS c a b ρ st) (if k = true then t1 else t2) := ts_V (r := c ρ st) h (ts_ite h1 h2)
theorem ts_ifC {c : DenT} {tc : RS Z Bool} {a b : DenS} {t1 t2 : Z → TSt Z σ τ α} (h : TJ id S (c ρ st) tc) (hx : ∀ fs s, PF fs → X fs s ρ (S s)) (h1 : ∀ s, TS N B R X (a ρ (S s)) (t1 s)) (h2 : ∀ s, TS N B R X (b ρ (S s)) (t2 s)) : TS N B R X (dIfS c a b ρ st) (tc.bindS fun k s => if k = true then t1 s else t2 s) := ts_C (r := c ρ st) h hx fun k s => ts_ite (fun _ => h1 s) fun _ => h2 s
theorem ts_retV {d : Den} {x : D} {a : α} (h : d ρ st = .ok x st) (hr : R a s x st) : TS N B R X (dRet d ρ st) (.rt a s) := by
  show TS N B R X ((d ρ st).toS ρ fun x st => .rt x st) _
  rw [h]; exact ⟨_, _, rfl, hr⟩
theorem ts_retC {d : Den} {ι' : α → D} {ta : RS Z α} (h : TJ ι' S (d ρ st) ta) (hx : ∀ fs s, PF fs → X fs s ρ (S s)) (hr : ∀ a s, R a s (ι' a) (S s)) : TS N B R X (dRet d ρ st) (ta.bindS fun a s => .rt a s) := ts_C (r := d ρ st) h hx fun a s => ⟨_, _, rfl, hr a s⟩
/-- .. the result told as a value of another type -/
theorem ts_retF {d : Den} {ι' : β → D} {ta : RS Z β} {f : β → α} (h : TJ ι' S (d ρ st) ta) (hx : ∀ fs s, PF fs → X fs s ρ (S s)) (hr : ∀ a s, R (f a) s (ι' a) (S s)) : TS N B R X (dRet d ρ st) (ta.bindS fun a s => .rt (f a) s) := ts_C (r := d ρ st) h hx fun a s => ⟨_, _, rfl, hr a s⟩
theorem ts_retN {a : α} (hr : R a s .non st) : TS N B R X (dRetN ρ st) (.rt a s) := ⟨_, _, rfl, hr⟩
theorem ts_raise {c : Nat} {nms : List Nat} {msg : Option Nat} {da : DenA} {ds : List D} {fs : List (Nat × D)} (h : da ρ st = .ok ds st) (hl : ds.length = nms.length) (h1 : Nat.ble ds.length 1000 = true) (hm : okMsgD msg ds = true) (hf : (nms.zip ds).reverse = fs) (hx : X fs s ρ st) : TS N B R X (dRaise c nms msg da ρ st) (.exc c fs s) := by
  show TS N B R X ((da ρ st).toS ρ fun ds st => if ds.length = nms.length ∧ ds.length ≤ 1000 ∧ okMsgD msg ds = true then .exc c (nms.zip ds).reverse ρ st else .bad) _
  rw [h]
  show TS N B R X (if ds.length = nms.length ∧ ds.length ≤ 1000 ∧ okMsgD msg ds = true then .exc c (nms.zip ds).reverse ρ st else .bad) _
  rw [if_pos ⟨hl, Nat.le_of_ble_eq_true h1, hm⟩, hf]
  exact ⟨_, _, rfl, hx⟩

/-! ### loops -/
theorem ts_forL {σ₁ : Type} {pop : Bool} {ws : List Nat} {c : Chk} {g : DenG} {b : DenS} {f : β → D} {E : σ₁ → DEnv} {S₁ : σ₁ → Z → DSto} {E1 : β → σ₁ → DEnv} {body : β → σ₁ → Z → TSt Z σ₁ σ₁ α} (hc : ∀ v s, chkB c (S₁ v s) = true)
    (hg : ∀ x v s, g (f x) (E v) (S₁ v s) = some (E1 x v, S₁ v s))
    (hb : ∀ x v s, TS (fun v' s' ρ2 st2 => turnE pop ws (E v) (S₁ v s) ρ2 st2 = some (E v', S₁ v' s')) (fun v' s' ρ2 st2 => turnE pop ws (E v) (S₁ v s) ρ2 st2 = some (E v', S₁ v' s')) R X (b (E1 x v) (S₁ v s)) (body x v s)) :
    ∀ (xs : List β) (v : σ₁) (s : Z), TS (NE E S₁) B R X (forL pop ws c g b (xs.map f) (E v) (S₁ v s)) (forT body xs v s)
  | [], v, s => by
    rw [List.map_nil, forL_nil, if_pos (hc v s)]
    exact ⟨_, _, rfl, rfl, rfl⟩
  | x :: xs, v, s => by
    have ih := ts_forL hc hg hb xs
    have h := hb x v s
    rw [List.map_cons, forL_cons, if_pos (hc v s), hg]
    dsimp only
    unfold forT
    revert h
    generalize body x v s = t
    intro h
    cases t with
    | nx v' s' => obtain ⟨ρ, st, e, k⟩ := h; rw [e]; dsimp only; rw [k]; exact ih v' s'
    | ct v' s' => obtain ⟨ρ, st, e, k⟩ := h; rw [e]; dsimp only; rw [k]; exact ih v' s'
    | bk v' s' => obtain ⟨ρ, st, e, k⟩ := h; rw [e]; dsimp only; rw [k]; exact ⟨_, _, rfl, rfl, rfl⟩
    | rt a s' => obtain ⟨ρ, st, e, k⟩ := h; rw [e]; exact ⟨_, _, rfl, k⟩
    | exc c fs s' => obtain ⟨ρ, st, e, k⟩ := h; rw [e]; exact ⟨_, _, rfl, k⟩
    | bad => trivial
theorem ts_whileL {σ₁ : Type} {pop : Bool} {ws : List Nat} {c : DenT} {b : DenS} {E : σ₁ → DEnv} {S₁ : σ₁ → Z → DSto} {tc : σ₁ → Z → RS Z Bool} {body : σ₁ → Z → TSt Z σ₁ σ₁ α}
    (ht : ∀ v s, TJ id (S₁ v) (c (E v) (S₁ v s)) (tc v s)) (hx : ∀ fs v s, PF fs → X fs s (E v) (S₁ v s))
    (hb : ∀ v s, TS (fun v' s' ρ2 st2 => turnE pop ws (E v) (S₁ v s) ρ2 st2 = some (E v', S₁ v' s')) (fun v' s' ρ2 st2 => turnE pop ws (E v) (S₁ v s) ρ2 st2 = some (E v', S₁ v' s')) R X (b (E v) (S₁ v s)) (body v s)) :
    ∀ (n : Nat) (v : σ₁) (s : Z), TS (NE E S₁) B R X (whileL pop ws c b n (E v) (S₁ v s)) (whileT tc body n v s)
  | 0, v, s => trivial
  | n + 1, v, s => by
    have ih := ts_whileL ht hx hb n
    have h0 := ht v s
    unfold whileT whileL
    revert h0
    generalize tc v s = t0
    intro h0
    cases t0 with
    | bad => trivial
    | exc c' fs s' => rw [show c (E v) (S₁ v s) = _ from h0.1]; exact ⟨_, _, rfl, hx _ _ _ h0.2⟩
    | ok k s' =>
      rw [show c (E v) (S₁ v s) = .ok k (S₁ v s') from h0]
      show TS (NE E S₁) B R X (if k = true then _ else _) _
      cases k with
      | false => exact ⟨_, _, rfl, rfl, rfl⟩
      | true =>
        rw [if_pos rfl]
        have h := hb v s'
        dsimp only
        revert h
        generalize body v s' = t
        intro h
        cases t with
        | nx v' s' => obtain ⟨ρ, st, e, k⟩ := h; rw [e]; dsimp only; rw [k]; exact ih v' s'
        | ct v' s' => obtain ⟨ρ, st, e, k⟩ := h; rw [e]; dsimp only; rw [k]; exact ih v' s'
        | bk v' s' => obtain ⟨ρ, st, e, k⟩ := h; rw [e]; dsimp only; rw [k]; exact ⟨_, _, rfl, rfl, rfl⟩
        | rt a s' => obtain ⟨ρ, st, e, k⟩ := h; rw [e]; exact ⟨_, _, rfl, k⟩
        | exc c fs s' => obtain ⟨ρ, st, e, k⟩ := h; rw [e]; exact ⟨_, _, rfl, k⟩
        | bad => trivial

theorem ts_for {σ₁ : Type} {xs : List β} {v : σ₁} {s : Z} {pop : Bool} {ws : List Nat} {c : Chk} {g : DenG} {b : DenS} {f : β → D} {E : σ₁ → DEnv} {S₁ : σ₁ → Z → DSto} {E1 : β → σ₁ → DEnv} {body : β → σ₁ → Z → TSt Z σ₁ σ₁ α} (hc : ∀ v s, chkB c (S₁ v s) = true)
    (hg : ∀ x v s, g (f x) (E v) (S₁ v s) = some (E1 x v, S₁ v s))
    (hb : ∀ x v s, TS (fun v' s' ρ2 st2 => turnE pop ws (E v) (S₁ v s) ρ2 st2 = some (E v', S₁ v' s')) (fun v' s' ρ2 st2 => turnE pop ws (E v) (S₁ v s) ρ2 st2 = some (E v', S₁ v' s')) R X (b (E1 x v) (S₁ v s)) (body x v s)) :
    TS (NE E S₁) B R X (forL pop ws c g b (xs.map f) (E v) (S₁ v s)) (forT body xs v s) := ts_forL hc hg hb xs v s
theorem ts_while {σ₁ : Type} {n : Nat} {v : σ₁} {s : Z} {pop : Bool} {ws : List Nat} {c : DenT} {b : DenS} {E : σ₁ → DEnv} {S₁ : σ₁ → Z → DSto} {tc : σ₁ → Z → RS Z Bool} {body : σ₁ → Z → TSt Z σ₁ σ₁ α}
    (ht : ∀ v s, TJ id (S₁ v) (c (E v) (S₁ v s)) (tc v s)) (hx : ∀ fs v s, PF fs → X fs s (E v) (S₁ v s))
    (hb : ∀ v s, TS (fun v' s' ρ2 st2 => turnE pop ws (E v) (S₁ v s) ρ2 st2 = some (E v', S₁ v' s')) (fun v' s' ρ2 st2 => turnE pop ws (E v) (S₁ v s) ρ2 st2 = some (E v', S₁ v' s')) R X (b (E v) (S₁ v s)) (body v s)) :
    TS (NE E S₁) B R X (whileL pop ws c b n (E v) (S₁ v s)) (whileT tc body n v s) := ts_whileL ht hx hb n v s

/-! ### bodies -/
abbrev RF0 [Enc α] (S : Z → DSto) : RR Z α := fun a s d st => d = en a ∧ st = S s
abbrev XF0 (S : Z → DSto) : XR Z := fun fs s _ st => st = S s ∧ PF fs
abbrev RP0 [Enc α] (S : Z → DSto) (b0 : DSto) : RR Z α := fun a s d st => fzD b0.length st d = some (en a) ∧ popS b0 st = some (S s)
abbrev XP0 (S : Z → DSto) (b0 : DSto) : XR Z := fun fs s _ st => popS b0 st = some (S s) ∧ PF fs
theorem tf_F [Enc α] {n N' : Nat} {b : DenS} {ds : List D} {E : DEnv} {t : TSt Z σ τ α} (hn : ds.length = n) (hE : ds.map some ++ List.replicate (N' - ds.length) none = E) (h : TS NF (NF : NR Z τ) (RF0 S) (XF0 S) (b E st) t) : TJ en S (bodyF n N' b ds st) t.fin := by
  rw [bodyF_ap hn, hE]
  cases t with
  | nx v s => trivial
  | bk v s => trivial
  | ct v s => trivial
  | rt a s => obtain ⟨d, st, e, rfl, rfl⟩ := h; rw [e]; rfl
  | exc c fs s => obtain ⟨d, st, e, rfl, p⟩ := h; rw [e]; exact ⟨rfl, p⟩
  | bad => trivial
theorem tf_FN {n N' : Nat} {b : DenS} {ds : List D} {E : DEnv} {t : TSt Z σ τ Unit} (hn : ds.length = n) (hE : ds.map some ++ List.replicate (N' - ds.length) none = E) (h : TS (fun _ s _ st => st = S s) (NF : NR Z τ) (RF0 S) (XF0 S) (b E st) t) : TJ en S (bodyF n N' b ds st) t.finN := by
  rw [bodyF_ap hn, hE]
  cases t with
  | nx v s => obtain ⟨d, st, e, rfl⟩ := h; rw [e]; rfl
  | bk v s => trivial
  | ct v s => trivial
  | rt a s => obtain ⟨d, st, e, rfl, rfl⟩ := h; rw [e]; rfl
  | exc c fs s => obtain ⟨d, st, e, rfl, p⟩ := h; rw [e]; exact ⟨rfl, p⟩
  | bad => trivial
theorem tf_P [Enc α] {n N' : Nat} {b : DenS} {ds : List D} {E : DEnv} {t : TSt Z σ τ α} (hn : ds.length = n) (hE : ds.map some ++ List.replicate (N' - ds.length) none = E) (h : TS NF (NF : NR Z τ) (RP0 S st) (XP0 S st) (b E st) t) : TJ en S (bodyP n N' b ds st) t.fin := by
  rw [bodyP_ap, bodyF_ap hn, hE]
  cases t with
  | nx v s => trivial
  | bk v s => trivial
  | ct v s => trivial
  | rt a s => obtain ⟨d, st', e, h1, h2⟩ := h; rw [e]; exact popR_ok h1 h2
  | exc c fs s =>
    obtain ⟨d, st', e, h1, h2⟩ := h; rw [e]
    refine ⟨?_, h2⟩
    show popR st (.exc c fs st') = .exc c fs (S s)
    unfold popR
    simp only [h1, show fzF st.length st' fs = some fs from h2 _ _]
  | bad => trivial
theorem tf_PN {n N' : Nat} {b : DenS} {ds : List D} {E : DEnv} {t : TSt Z σ τ Unit} (hn : ds.length = n) (hE : ds.map some ++ List.replicate (N' - ds.length) none = E) (h : TS (fun _ s _ st' => popS st st' = some (S s)) (NF : NR Z τ) (RP0 S st) (XP0 S st) (b E st) t) : TJ en S (bodyP n N' b ds st) t.finN := by
  rw [bodyP_ap, bodyF_ap hn, hE]
  cases t with
  | nx v s => obtain ⟨d, st', e, h1⟩ := h; rw [e]; exact popR_ok rfl h1
  | bk v s => trivial
  | ct v s => trivial
  | rt a s => obtain ⟨d, st', e, h1, h2⟩ := h; rw [e]; exact popR_ok h1 h2
  | exc c fs s =>
    obtain ⟨d, st', e, h1, h2⟩ := h; rw [e]
    refine ⟨?_, h2⟩
    show popR st (.exc c fs st') = .exc c fs (S s)
    unfold popR
    simp only [h1, show fzF st.length st' fs = some fs from h2 _ _]
  | bad => trivial
end
end FV

set_option Elab.async false
set_option linter.all false
set_option maxRecDepth 100000
set_option maxHeartbeats 4000000
namespace FV
open PySem PySem.Spec PyProof.Rows L2 Enc

/-! ## values: what an expression hands back where nothing can go wrong -/
section
variable {ρ : DEnv} {st : DSto} {x y z : D} {i n : Nat}
theorem v_var {d : D} (h : ρ[i]? = some (some d)) : dVar i ρ st = .ok d st := by unfold dVar; rw [h]
theorem v_c : dC x ρ st = .ok x st := rfl
theorem v_op {f : OpD} {a b : Den} (ha : a ρ st = .ok x st) (hb : b ρ st = .ok y st) (h : f x y st = some (z, st)) : dOp f a b ρ st = .ok z st := by
  unfold dOp; rw [ha, DRes.bind_ok, hb, DRes.bind_ok, h]; rfl
theorem v_B {d : Den} {k : Bool} (h : d ρ st = .ok (.bl k) st) : dB d ρ st = .ok k st := by unfold dB; rw [h]; rfl
theorem v_and {a b : DenT} {j k : Bool} (ha : a ρ st = .ok j st) (hb : b ρ st = .ok k st) : dAnd a b ρ st = .ok (j && k) st := by
  unfold dAnd; rw [ha, DRes.bind_ok, hb]; cases j <;> rfl
theorem v_or {a b : DenT} {j k : Bool} (ha : a ρ st = .ok j st) (hb : b ρ st = .ok k st) : dOr a b ρ st = .ok (j || k) st := by
  unfold dOr; rw [ha, DRes.bind_ok, hb]; cases j <;> rfl
theorem v_not {a : DenT} {j : Bool} (ha : a ρ st = .ok j st) : dNot a ρ st = .ok (!j) st := by unfold dNot; rw [ha]; rfl
theorem v_andV {a b : Den} {j k : Bool} (ha : a ρ st = .ok (.bl j) st) (hb : b ρ st = .ok (.bl k) st) : dAndV a b ρ st = .ok (.bl (j && k)) st := by
  unfold dAndV; rw [ha, DRes.bind_ok]; cases j
  · rfl
  · exact hb
theorem v_orV {a b : Den} {j k : Bool} (ha : a ρ st = .ok (.bl j) st) (hb : b ρ st = .ok (.bl k) st) : dOrV a b ρ st = .ok (.bl (j || k)) st := by
  unfold dOrV; rw [ha, DRes.bind_ok]; cases j
  · exact hb
  · rfl
theorem v_notV {a : Den} {j : Bool} (ha : a ρ st = .ok (.bl j) st) : dNotV a ρ st = .ok (.bl (!j)) st := by unfold dNotV; rw [ha]; rfl
theorem v_if {α : Type} {ι : α → D} {t : DenT} {a b : Den} {k : Bool} {p q : α} (ht : t ρ st = .ok k st) (ha : k = true → a ρ st = .ok (ι p) st) (hb : k = false → b ρ st = .ok (ι q) st) : dIf t a b ρ st = .ok (ι (if k = true then p else q)) st := by
  unfold dIf; rw [ht, DRes.bind_ok]
  cases k
  · exact hb rfl
  · exact ha rfl
theorem v_fld {o : Den} (ho : o ρ st = .ok x st) (h : fldD i x st = .ok y st) : dFld i o ρ st = .ok y st := by unfold dFld; rw [ho]; exact h
theorem f_ins {c : Nat} {fs : List (Nat × D)} (h : getN i fs = some y) : fldD i (.ins c fs) st = .ok y st := by
  show (match getN i fs with | some y => DRes.ok y st | none => .bad) = _
  rw [h]
theorem f_ref {c : Nat} {fs : List (Nat × D)} (hn : st[n]? = some (.ins c fs)) (h : getN i fs = some y) : fldD i (.ref n) st = .ok y st := by rw [fldD_ref hn, h]
theorem va_nil : dNil ρ st = .ok [] st := rfl
theorem va_cons {a : Den} {r : DenA} {xs : List D} (ha : a ρ st = .ok x st) (hr : r ρ st = .ok xs st) : dCons a r ρ st = .ok (x :: xs) st := by
  unfold dCons; rw [ha, DRes.bind_ok, hr]; rfl
theorem v_tup {r : DenA} {xs : List D} (h : r ρ st = .ok xs st) (hl : Nat.ble xs.length 1000 = true := by rfl) : dTup r ρ st = .ok (.tup xs) st := by
  unfold dTup; rw [h]; exact mkTup_ok (Nat.le_trans (Nat.le_of_ble_eq_true hl) (by rw [szl]; omega))
theorem v_lst {r : DenA} {xs : List D} (h : r ρ st = .ok xs st) (hl : Nat.ble xs.length 1000 = true := by rfl) : dLstV r ρ st = .ok (.lst xs) st := by
  unfold dLstV; rw [h]; exact mkLstV_ok (Nat.le_trans (Nat.le_of_ble_eq_true hl) (by rw [szl]; omega))
theorem v_blt {g : OpL} {r : DenA} {xs : List D} (h : r ρ st = .ok xs st) (k : g xs st = some (z, st)) : dB' g r ρ st = .ok z st := by
  unfold dB'; rw [h, DRes.bind_ok, k]; rfl
theorem v_chain {f g : OpD} {a b c : Den} {j k : Bool} (ha : a ρ st = .ok x st) (hb : b ρ st = .ok y st) (h1 : f x y st = some (.bl j, st)) (hc : c ρ st = .ok z st) (h2 : g y z st = some (.bl k, st)) : dChain f g a b c ρ st = .ok (.bl (j && k)) st := by
  unfold dChain; rw [ha, DRes.bind_ok, hb, DRes.bind_ok, h1]
  cases j
  · rfl
  · show (c ρ st).bind _ = _
    rw [hc, DRes.bind_ok, h2]; rfl

/-! ### operations on values -/
section
variable {α β κ : Type}
theorem o_add {a b : Int} : addO (en a) (en b) st = some (en (a + b), st) := rfl
theorem o_sub {a b : Int} : subO (en a) (en b) st = some (en (a - b), st) := rfl
theorem o_lt {a b : Int} : ltO (en a) (en b) st = some (en (decide (a < b)), st) := rfl
theorem o_le {a b : Int} : leO (en a) (en b) st = some (en (decide (a ≤ b)), st) := rfl
theorem o_gt {a b : Int} : gtO (en a) (en b) st = some (en (decide (b < a)), st) := rfl
theorem o_ge {a b : Int} : geO (en a) (en b) st = some (en (decide (b ≤ a)), st) := rfl
theorem o_mod {a b : Int} (h : 0 < b) : modO (en a) (en b) st = some (en (a % b), st) := if_pos h
theorem o_fdiv {a b : Int} (h : 0 < b ∧ b < 1073741824) : fdivO (en a) (en b) st = some (en (a / b), st) := if_pos h
theorem o_mul {a b : Int} (h : (-(2 ^ 64) < a ∧ a < 2 ^ 64) ∨ (-(2 ^ 64) < b ∧ b < 2 ^ 64)) : mulO (en a) (en b) st = some (en (a * b), st) := if_pos h
theorem o_eq [EncD α] [DecidableEq α] {a b : α} (h : EncD.dep α ≤ 64 := by decide) : eqO (en a) (en b) st = some (en (decide (a = b)), st) := by
  rw [eqO_gd (EncD.gd a) (EncD.gd b) h h]
  have : deqD (en a) (en b) = decide (a = b) := by rw [Bool.eq_iff_iff, EncD.deq, decide_eq_true_eq]
  rw [this]; rfl
theorem o_ne [EncD α] [DecidableEq α] {a b : α} (h : EncD.dep α ≤ 64 := by decide) : neO (en a) (en b) st = some (en (!decide (a = b)), st) := by
  rw [neO_gd (EncD.gd a) (EncD.gd b) h h]
  have : deqD (en a) (en b) = decide (a = b) := by rw [Bool.eq_iff_iff, EncD.deq, decide_eq_true_eq]
  rw [this]; rfl
theorem o_eqX {a b : Dat} : eqO (en a) (en b) st = some (en (a.eq b), st) := eqO_gd a.gd b.gd
theorem o_neX {a b : Dat} : neO (en a) (en b) st = some (en (!a.eq b), st) := neO_gd a.gd b.gd
theorem isN_none {a : Option α} [EncD α] (hn : ∀ b : α, en b ≠ .non) : isO (en a) .non st = some (en a.isNone, st) := by
  cases a with
  | none => show some (D.bl (decide (D.non = .non)), st) = _; rw [decide_eq_true rfl]; rfl
  | some b => show some (D.bl (decide (en b = .non)), st) = _; rw [decide_eq_false (hn b)]; rfl
theorem nisN_none {a : Option α} [EncD α] (hn : ∀ b : α, en b ≠ .non) : nisO (en a) .non st = some (en a.isSome, st) := by
  cases a with
  | none => show some (D.bl (!decide (D.non = .non)), st) = _; rw [decide_eq_true rfl]; rfl
  | some b => show some (D.bl (!decide (en b = .non)), st) = _; rw [decide_eq_false (hn b)]; rfl
theorem any_deq [EncD α] [DecidableEq α] {a : α} : ∀ l : List α, (l.map en).any (fun z => deqD z (en a)) = decide (a ∈ l)
  | [] => by simp
  | b :: l => by
    rw [List.map_cons, List.any_cons, any_deq l, Bool.eq_iff_iff, Bool.or_eq_true, EncD.deq, decide_eq_true_eq, decide_eq_true_eq, List.mem_cons]
    exact ⟨fun h => h.imp Eq.symm id, fun h => h.imp Eq.symm id⟩
/-- x in a list -/
theorem o_in [EncD α] [DecidableEq α] {a : α} {l : List α} (h : EncD.dep α ≤ 63 := by decide) : inO (en a) (en l) st = some (en (decide (a ∈ l)), st) := by
  show inO (en a) (.lst (l.map en)) st = _
  rw [inO_lst (EncD.gd a) (gd_lst (gds_en l)) (by omega) (by omega), any_deq]; rfl
theorem o_nin [EncD α] [DecidableEq α] {a : α} {l : List α} (h : EncD.dep α ≤ 63 := by decide) : ninO (en a) (en l) st = some (en (!decide (a ∈ l)), st) := by
  show ninO (en a) (.lst (l.map en)) st = _
  rw [ninO_lst (EncD.gd a) (gd_lst (gds_en l)) (by omega) (by omega), any_deq]; rfl
theorem inV_en [EncF α] [DecidableEq α] {a : α} : ∀ l : List α, inV (vOf (en a)) ((l.map en).map vOf) = decide (a ∈ l)
  | [] => by simp [inV]
  | b :: l => by
    have ih := inV_en (a := a) l
    unfold inV at ih ⊢
    rw [List.map_cons, List.map_cons, List.any_cons, ih, Bool.eq_iff_iff, Bool.or_eq_true, EncF.eqv, decide_eq_true_eq, decide_eq_true_eq, List.mem_cons]
theorem flat_en [EncF α] (l : List α) : (l.map (en : α → D)).all flatD = true := by
  rw [List.all_map]
  exact List.all_eq_true.mpr fun a _ => EncF.flat a
/-- x in a tuple of flat items -/
theorem o_inT [EncF α] [DecidableEq α] {a : α} {l : Vt α} : inO (en a) (en l) st = some (en (decide (a ∈ l.l)), st) := by
  show (if flatD (en a) = true ∧ (l.l.map en).all flatD = true then some (D.bl (inV (vOf (en a)) ((l.l.map en).map vOf)), st) else none) = _
  rw [if_pos ⟨EncF.flat a, flat_en _⟩, inV_en]; rfl
theorem o_ninT [EncF α] [DecidableEq α] {a : α} {l : Vt α} : ninO (en a) (en l) st = some (en (!decide (a ∈ l.l)), st) := by
  show (if flatD (en a) = true ∧ (l.l.map en).all flatD = true then some (D.bl (!inV (vOf (en a)) ((l.l.map en).map vOf)), st) else none) = _
  rw [if_pos ⟨EncF.flat a, flat_en _⟩, inV_en]; rfl
theorem o_inS [EncF α] [DecidableEq α] {a : α} {l : Sq α} (h : EncD.dep α ≤ 63 := by decide) : inO (en a) (en l) st = some (en (decide (a ∈ l.l)), st) := by
  obtain ⟨t, l⟩ := l
  cases t with
  | false => exact o_in (l := l) h
  | true => exact o_inT (l := ⟨l⟩)
theorem o_ninS [EncF α] [DecidableEq α] {a : α} {l : Sq α} (h : EncD.dep α ≤ 63 := by decide) : ninO (en a) (en l) st = some (en (!decide (a ∈ l.l)), st) := by
  obtain ⟨t, l⟩ := l
  cases t with
  | false => exact o_nin (l := l) h
  | true => exact o_ninT (l := ⟨l⟩)
/-- k in a dict -/
theorem o_inD [EncK κ] [Enc α] [DecidableEq κ] {k : κ} {l : Dc κ α} : inO (en k) (en l) st = some (en (look l.l k).isSome, st) := by
  show (dgetD (EncK.t κ) (l.l.map fun p => (en p.1, en p.2)) (en k)).map (fun o => (D.bl o.isSome, st)) = _
  rw [dget_en, Option.map_some, Option.isSome_map]; rfl
theorem o_ninD [EncK κ] [Enc α] [DecidableEq κ] {k : κ} {l : Dc κ α} : ninO (en k) (en l) st = some (en (!(look l.l k).isSome), st) := by
  show (dgetD (EncK.t κ) (l.l.map fun p => (en p.1, en p.2)) (en k)).map (fun o => (D.bl (!o.isSome), st)) = _
  rw [dget_en, Option.map_some, Option.isSome_map]; rfl
/-! len, list, tuple -/
theorem b_len [Enc α] {l : List α} {f : α → D} : lenO [.lst (l.map f)] st = some (en (l.length : Int), st) := by
  rw [lenO_lst, List.length_map]; rfl
theorem b_lenT {l : List α} {f : α → D} : lenO [.tup (l.map f)] st = some (en (l.length : Int), st) := by
  rw [lenO_tup, List.length_map]; rfl
theorem b_lenS [EncD α] {l : Sq α} : lenO [en l] st = some (en (l.l.length : Int), st) := by
  obtain ⟨t, l⟩ := l
  cases t
  · exact b_len (l := l)
  · exact b_lenT (l := l)
theorem b_lenD [EncK κ] [Enc α] {l : Dc κ α} : lenO [en l] st = some (en (l.l.length : Int), st) := by
  show some (D.int ((l.l.map fun p => (en p.1, en p.2)).length : Int), st) = _
  rw [List.length_map]; rfl
theorem b_list {xs : List D} : listDO [.lst xs] st = some (.lst xs, st) := rfl
theorem b_listT {xs : List D} : listDO [.tup xs] st = some (.lst xs, st) := rfl
theorem b_listS [EncD α] {l : Sq α} : listDO [en l] st = some (en l.l, st) := by
  obtain ⟨t, l⟩ := l
  cases t <;> rfl
theorem b_tuple {xs : List D} : tupleO [.lst xs] st = some (.tup xs, st) := rfl
theorem b_tupleT {xs : List D} : tupleO [.tup xs] st = some (.tup xs, st) := rfl
theorem b_tupleS [EncD α] {l : Sq α} : tupleO [en l] st = some (en (Vt.mk l.l), st) := by
  obtain ⟨t, l⟩ := l
  cases t <;> rfl
theorem b_int {i : Int} : intO [en i] st = some (en i, st) := rfl
theorem b_max {a b : Int} : maxO [en a, en b] st = some (en (if b > a then b else a), st) := rfl
theorem b_min {a b : Int} : minO [en a, en b] st = some (en (if b < a then b else a), st) := rfl
theorem b_sum {l : List Int} : sumO [en l] st = some (en l.sum, st) := by
  show (intsD (l.map D.int)).map (fun ns => (D.int ns.sum, st)) = _
  have := intsD_map id l
  simp only [id_eq, List.map_id_fun] at this
  rw [show (l.map D.int) = l.map fun a => D.int a from rfl, this]; rfl
theorem blsD_en (l : List Bool) : blsD (l.map D.bl) = some l := by
  have := blsD_map id l
  simpa using this
theorem b_all {l : List Bool} : allO [en l] st = some (en (l.all id), st) := by
  show (blsD (l.map D.bl)).map (fun ns => (D.bl (ns.all id), st)) = _
  rw [blsD_en]; rfl
theorem b_any {l : List Bool} : anyO [en l] st = some (en (l.any id), st) := by
  show (blsD (l.map D.bl)).map (fun ns => (D.bl (ns.any id), st)) = _
  rw [blsD_en]; rfl
/-! slices -/
def cutT (xs : List α) (lo hi : Option Int) : List α := (xs.drop (HT.sIx xs.length 0 lo)).take (HT.sIx xs.length xs.length hi - HT.sIx xs.length 0 lo)
theorem cut_map {f : α → D} {xs : List α} {lo hi : Option Int} : FV.cutD (xs.map f) lo hi = (cutT xs lo hi).map f := by
  unfold FV.cutD cutT
  rw [List.length_map, List.map_take, List.map_drop]
theorem p_none : dPart none ρ st = .ok none st := rfl
theorem p_some {d : Den} {i : Int} (h : d ρ st = .ok (en i) st) : dPart (some d) ρ st = .ok (some i) st := by
  show (d ρ st).bind _ = _
  rw [h]; rfl
theorem v_slL [Enc α] {d : Den} {lo hi : Option Den} {l h : Option Int} {xs : List α} {f : α → D} (hd : d ρ st = .ok (.lst (xs.map f)) st) (hl : dPart lo ρ st = .ok l st) (hh : dPart hi ρ st = .ok h st) : dSl d lo hi ρ st = .ok (.lst ((cutT xs l h).map f)) st := by
  unfold dSl
  rw [hd, DRes.bind_ok, hl, DRes.bind_ok, hh, DRes.bind_ok, slO_lst, cut_map]; rfl
theorem v_slT [Enc α] {d : Den} {lo hi : Option Den} {l h : Option Int} {xs : List α} {f : α → D} (hd : d ρ st = .ok (.tup (xs.map f)) st) (hl : dPart lo ρ st = .ok l st) (hh : dPart hi ρ st = .ok h st) : dSl d lo hi ρ st = .ok (.tup ((cutT xs l h).map f)) st := by
  unfold dSl
  rw [hd, DRes.bind_ok, hl, DRes.bind_ok, hh, DRes.bind_ok, slO_tup, cut_map]; rfl
end
end

/-! ## computations -/
section
variable {Z α β γ κ : Type} {S : Z → DSto} {s : Z} {ρ : DEnv} {st : DSto}
theorem atI_map {f : α → β} {l : List α} {i : Int} : atI (l.map f) i = (atI l i).map f := by
  unfold atI
  rw [List.length_map]
  simp only [List.getElem?_map]
  cases ixN l.length i <;> rfl
/-- l[i] -/
def ixT (l : List α) (i : Int) (s : Z) : RS Z α := match atI l i with
  | some a => .ok a s
  | none => .bad
theorem c_ix {f : α → D} {l : List α} {i : Int} : TJ f S (ofO (ixO (.lst (l.map f)) (en i) (S s))) (ixT l i s) := by
  show TJ f S (ofO ((atI (l.map f) i).map fun v => (v, S s))) _
  rw [atI_map]; unfold ixT
  cases atI l i with
  | some a => exact rfl
  | none => trivial
theorem c_ixT {f : α → D} {l : List α} {i : Int} : TJ f S (ofO (ixO (.tup (l.map f)) (en i) (S s))) (ixT l i s) := by
  show TJ f S (ofO ((atI (l.map f) i).map fun v => (v, S s))) _
  rw [atI_map]; unfold ixT
  cases atI l i with
  | some a => exact rfl
  | none => trivial
theorem c_ixS [EncD α] {l : Sq α} {i : Int} : TJ (en : α → D) S (ofO (ixO (en l) (en i) (S s))) (ixT l.l i s) := by
  obtain ⟨t, l⟩ := l
  cases t
  · exact c_ix
  · exact c_ixT
/-- d[k] -/
def lookT [DecidableEq κ] (l : List (κ × α)) (k : κ) (s : Z) : RS Z α := match look l k with
  | some a => .ok a s
  | none => .bad
theorem c_ixD [EncK κ] [Enc α] [DecidableEq κ] {l : Dc κ α} {k : κ} : TJ (en : α → D) S (ofO (ixO (en l) (en k) (S s))) (lookT l.l k s) := by
  show TJ (en : α → D) S (ofO (match dgetD (EncK.t κ) (l.l.map fun p => (en p.1, en p.2)) (en k) with | some (some v) => some (v, S s) | _ => none)) _
  rw [dget_en]; unfold lookT
  cases look l.l k with
  | some a => exact rfl
  | none => trivial
theorem v_get2 [EncK κ] [Enc α] [DecidableEq κ] {l : Dc κ α} {k : κ} {a : α} {d d2 d3 : Den} (h1 : d ρ st = .ok (en l) st) (h2 : d2 ρ st = .ok (en k) st) (h3 : d3 ρ st = .ok (en a) st) : dGet2 d d2 d3 ρ st = .ok (en ((look l.l k).getD a)) st := by
  unfold dGet2
  rw [h1, DRes.bind_ok]
  show (d2 ρ st).bind _ = _
  rw [h2, DRes.bind_ok, h3, DRes.bind_ok]
  show ofO ((dgetD (EncK.t κ) (l.l.map fun p => (en p.1, en p.2)) (en k)).map fun o => (o.getD (en a), st)) = _
  rw [dget_en]
  cases look l.l k <;> rfl
theorem c_mod {a b : Int} : TJ (en : Int → D) S (ofO (modO (en a) (en b) (S s))) (if 0 < b then .ok (a % b) s else .bad) := tj_grd fun h => by rw [o_mod h]; rfl
theorem c_fdiv {a b : Int} : TJ (en : Int → D) S (ofO (fdivO (en a) (en b) (S s))) (if 0 < b ∧ b < 1073741824 then .ok (a / b) s else .bad) := tj_grd fun h => by rw [o_fdiv h]; rfl
theorem c_mul {a b : Int} : TJ (en : Int → D) S (ofO (mulO (en a) (en b) (S s))) (if (-(2 ^ 64) < a ∧ a < 2 ^ 64) ∨ (-(2 ^ 64) < b ∧ b < 2 ^ 64) then .ok (a * b) s else .bad) := tj_grd fun h => by rw [o_mul h]; rfl
/-- the most items of a list that is put together here -/
abbrev lim : Nat := 1000000
theorem lim_sz : lim ≤ sizeLine := by rw [szl]; decide
theorem c_cat {f : α → D} {l m : List α} {t : RS Z (List α)} (h : t = if l.length + m.length ≤ lim then .ok (l ++ m) s else .bad) : TJ (fun l : List α => D.lst (l.map f)) S (ofO (addO (.lst (l.map f)) (.lst (m.map f)) (S s))) t := by
  subst h
  refine tj_grd fun h => ?_
  have := lim_sz
  rw [addO_lst (by rw [List.length_map, List.length_map]; omega), ← List.map_append]; rfl
theorem c_catT {f : α → D} {l m : List α} {t : RS Z (List α)} (h : t = if l.length + m.length ≤ lim then .ok (l ++ m) s else .bad) : TJ (fun l : List α => D.tup (l.map f)) S (ofO (addO (.tup (l.map f)) (.tup (m.map f)) (S s))) t := by
  subst h
  refine tj_grd fun h => ?_
  have := lim_sz
  rw [addO_tup (by rw [List.length_map, List.length_map]; omega), ← List.map_append]; rfl
/-- a test that asks its second part only where the first one holds -/
theorem c_and {a b : DenT} {ta : RS Z Bool} {tb : Z → RS Z Bool} (ha : TJ id S (a ρ st) ta) (hb : ∀ s, TJ id S (b ρ (S s)) (tb s)) : TJ id S (dAnd a b ρ st) (ta.bind fun k s => if k = true then tb s else .ok false s) := tj_C (r := a ρ st) ha fun k s => tj_ite (fun _ => hb s) fun _ => rfl
theorem c_or {a b : DenT} {ta : RS Z Bool} {tb : Z → RS Z Bool} (ha : TJ id S (a ρ st) ta) (hb : ∀ s, TJ id S (b ρ (S s)) (tb s)) : TJ id S (dOr a b ρ st) (ta.bind fun k s => if k = true then .ok true s else tb s) := tj_C (r := a ρ st) ha fun k s => tj_ite (fun _ => rfl) fun _ => hb s
theorem c_not {a : DenT} {ta : RS Z Bool} (ha : TJ id S (a ρ st) ta) : TJ id S (dNot a ρ st) (ta.bind fun k s => .ok (!k) s) := tj_C (r := a ρ st) ha fun k s => rfl
theorem c_B {d : Den} {t : RS Z Bool} (h : TJ (en : Bool → D) S (d ρ st) t) : TJ id S (dB d ρ st) t := by
  cases t with
  | ok a s => show dB d ρ st = .ok a (S s); unfold dB; rw [show d ρ st = _ from h]; rfl
  | exc c fs s => refine ⟨?_, h.2⟩; show dB d ρ st = .exc c fs (S s); unfold dB; rw [show d ρ st = _ from h.1]; rfl
  | bad => trivial
theorem c_andV {a b : Den} {ta : RS Z Bool} {tb : Z → RS Z Bool} (ha : TJ (en : Bool → D) S (a ρ st) ta) (hb : ∀ s, TJ (en : Bool → D) S (b ρ (S s)) (tb s)) : TJ (en : Bool → D) S (dAndV a b ρ st) (ta.bind fun k s => if k = true then tb s else .ok false s) := tj_C (r := a ρ st) ha fun k s => by
  cases k
  · exact rfl
  · exact hb s
theorem c_orV {a b : Den} {ta : RS Z Bool} {tb : Z → RS Z Bool} (ha : TJ (en : Bool → D) S (a ρ st) ta) (hb : ∀ s, TJ (en : Bool → D) S (b ρ (S s)) (tb s)) : TJ (en : Bool → D) S (dOrV a b ρ st) (ta.bind fun k s => if k = true then .ok true s else tb s) := tj_C (r := a ρ st) ha fun k s => by
  cases k
  · exact hb s
  · exact rfl
theorem c_notV {a : Den} {ta : RS Z Bool} (ha : TJ (en : Bool → D) S (a ρ st) ta) : TJ (en : Bool → D) S (dNotV a ρ st) (ta.bind fun k s => .ok (!k) s) := tj_C (r := a ρ st) ha fun k s => rfl
theorem c_if {ι : α → D} {t : DenT} {a b : Den} {tt : RS Z Bool} {ta tb : Z → RS Z α} (ht : TJ id S (t ρ st) tt) (ha : ∀ s, TJ ι S (a ρ (S s)) (ta s)) (hb : ∀ s, TJ ι S (b ρ (S s)) (tb s)) : TJ ι S (dIf t a b ρ st) (tt.bind fun k s => if k = true then ta s else tb s) := tj_C (r := t ρ st) ht fun k s => tj_ite (fun _ => ha s) fun _ => hb s
/-- a condition known as a value, the parts computed -/
theorem c_ifV {ι : α → D} {t : DenT} {a b : Den} {k : Bool} {ta tb : RS Z α} (ht : t ρ (S s) = .ok k (S s)) (ha : TJ ι S (a ρ (S s)) ta) (hb : TJ ι S (b ρ (S s)) tb) : TJ ι S (dIf t a b ρ (S s)) (if k = true then ta else tb) := tj_V (r := t ρ (S s)) ht (tj_ite (fun _ => ha) fun _ => hb)

/-! ### comprehensions -/
/-- the items for which p holds, by k; nothing goes wrong -/
def lcP (xs : List α) (p : α → Bool) (k : α → β) (s : Z) : RS Z (List β) := if xs.length < lim then .ok ((xs.filter p).map k) s else .bad
def lcM (xs : List α) (k : α → β) (s : Z) : RS Z (List β) := if xs.length < lim then .ok (xs.map k) s else .bad
def lcGo (p : α → Z → RS Z Bool) (k : α → Z → RS Z β) : List α → List β → Z → RS Z (List β)
  | [], acc, s => .ok acc s
  | x :: xs, acc, s => match p x s with
    | .ok true s => (match k x s with
      | .ok b s => if acc.length < lim then lcGo p k xs (acc ++ [b]) s else .bad
      | _ => .bad)
    | .ok false s => lcGo p k xs acc s
    | _ => .bad
def lcT (xs : List α) (p : α → Z → RS Z Bool) (k : α → Z → RS Z β) (s : Z) : RS Z (List β) := lcGo p k xs [] s
/-- .. over a second row that the item tells -/
def lcF (xs : List α) (ys : α → List γ) (p : α → γ → Bool) (k : α → γ → β) (s : Z) : RS Z (List β) := if (xs.flatMap fun x => ((ys x).filter (p x)).map (k x)).length < lim then .ok (xs.flatMap fun x => ((ys x).filter (p x)).map (k x)) s else .bad
theorem lcGo_ok {f : α → D} {h : β → D} {c : Chk} {vs : List Nat} {g : DenG} {t : DenT} {e : Den} {E1 : α → DEnv} {p : α → Z → RS Z Bool} {k : α → Z → RS Z β} (hc : ∀ s, chkB c (S s) = true) (hg : ∀ x s, g (f x) (wipeE ρ vs) (S s) = some (E1 x, S s))
    (ht : ∀ x s, TJ id S (t (E1 x) (S s)) (p x s)) (he : ∀ x s, TJ h S (e (E1 x) (S s)) (k x s)) : ∀ (xs : List α) (acc : List β) (s : Z),
    match lcGo p k xs acc s with
    | .ok l s' => compL c vs g (stepE t e) ρ (xs.map f) (acc.map h) (S s) = some (l.map h, S s')
    | .exc _ _ _ => False
    | .bad => True
  | [], acc, s => by
    unfold lcGo
    show compL c vs g (stepE t e) ρ [] (acc.map h) (S s) = _
    rw [compL_nil, if_pos (hc s)]
  | x :: xs, acc, s => by
    have h1 := ht x s
    unfold lcGo
    revert h1
    generalize p x s = r1
    intro h1
    cases r1 with
    | bad => trivial
    | exc c' fs s' => trivial
    | ok b s1 =>
      cases b with
      | false =>
        dsimp only
        have ih := lcGo_ok hc hg ht he xs acc s1
        revert ih
        generalize lcGo p k xs acc s1 = r
        intro ih
        have e1 : compL c vs g (stepE t e) ρ ((x :: xs).map f) (acc.map h) (S s) = compL c vs g (stepE t e) ρ (xs.map f) (acc.map h) (S s1) := by
          rw [List.map_cons, compL_cons, if_pos (hc s), hg]
          simp only [stepE_ap, show t (E1 x) (S s) = .ok false (S s1) from h1]
        cases r with
        | ok l s' => exact e1.trans ih
        | exc c' fs s' => exact ih
        | bad => trivial
      | true =>
        dsimp only
        have h2 := he x s1
        revert h2
        generalize k x s1 = r2
        intro h2
        cases r2 with
        | bad => trivial
        | exc c' fs s' => trivial
        | ok b s2 =>
          dsimp only
          by_cases q : acc.length < lim
          · rw [if_pos q]
            have ih := lcGo_ok hc hg ht he xs (acc ++ [b]) s2
            revert ih
            generalize lcGo p k xs (acc ++ [b]) s2 = r
            intro ih
            have sz : (acc.map h).length < sizeLine := by rw [List.length_map]; exact Nat.lt_of_lt_of_le q lim_sz
            have e1 : compL c vs g (stepE t e) ρ ((x :: xs).map f) (acc.map h) (S s) = compL c vs g (stepE t e) ρ (xs.map f) ((acc ++ [b]).map h) (S s2) := by
              rw [List.map_cons, compL_cons, if_pos (hc s), hg]
              simp only [stepE_ap, show t (E1 x) (S s) = .ok true (S s1) from h1, show e (E1 x) (S s1) = .ok (h b) (S s2) from h2, if_pos sz, List.map_append, List.map_cons, List.map_nil]
            cases r with
            | ok l s' => exact e1.trans ih
            | exc c' fs s' => exact ih
            | bad => trivial
          · rw [if_neg q]; trivial
theorem c_lc {f : α → D} {h : β → D} {di : DenI} {c : Chk} {vs : List Nat} {g : DenG} {t : DenT} {e : Den} {E1 : α → DEnv} {xs : List α} {p : α → Z → RS Z Bool} {k : α → Z → RS Z β} (hi : di ρ st = .ok (xs.map f, c) (S s)) (hc : ∀ s, chkB c (S s) = true) (hg : ∀ x s, g (f x) (wipeE ρ vs) (S s) = some (E1 x, S s))
    (ht : ∀ x s, TJ id S (t (E1 x) (S s)) (p x s)) (he : ∀ x s, TJ h S (e (E1 x) (S s)) (k x s)) : TJ (fun l : List β => D.lst (l.map h)) S (dLcB true di vs g (stepE t e) ρ st) (lcT xs p k s) := by
  have := lcGo_ok hc hg ht he xs [] s
  unfold lcT
  have e1 : dLcB true di vs g (stepE t e) ρ st = match compL c vs g (stepE t e) ρ (xs.map f) [] (S s) with
    | some (xs, st') => lcEnd true xs st'
    | none => .bad := by rw [dLcB_ap, hi, DRes.bind_ok] <;> rfl
  rw [e1]
  revert this
  generalize lcGo p k xs [] s = r
  intro this
  cases r with
  | ok l s' => rw [show compL c vs g (stepE t e) ρ (xs.map f) [] (S s) = _ from this]; exact rfl
  | exc c' fs s' => exact this.elim
  | bad => trivial
/-- .. by values -/
theorem c_lcP {f : α → D} {h : β → D} {di : DenI} {c : Chk} {vs : List Nat} {g : DenG} {t : DenT} {e : Den} {E1 : α → DEnv} {xs : List α} {p : α → Bool} {k : α → β} (hi : di ρ st = .ok (xs.map f, c) (S s)) (hc : chkB c (S s) = true) (hg : ∀ x, g (f x) (wipeE ρ vs) (S s) = some (E1 x, S s))
    (ht : ∀ x, t (E1 x) (S s) = .ok (p x) (S s)) (he : ∀ x, e (E1 x) (S s) = .ok (h (k x)) (S s)) : TJ (fun l : List β => D.lst (l.map h)) S (dLcB true di vs g (stepE t e) ρ st) (lcP xs p k s) := by
  refine tj_grd fun hl => ?_
  have := compL_filterE (c := c) (vs := vs) (g := g) (step := stepE t e) (ρ := ρ) (st := S s) f (fun x => h (k x)) p hc xs (Nat.lt_of_lt_of_le hl lim_sz) (fun x hx acc ha => ⟨_, hg x, by
    rw [stepE_ap, ht]
    cases q : p x
    · simp
    · dsimp only; rw [he]; dsimp only; rw [if_pos ha]; rfl⟩)
  show dLcB true di vs g (stepE t e) ρ st = .ok (D.lst (((xs.filter p).map k).map h)) (S s)
  rw [dLcB_ap, hi, DRes.bind_ok]
  dsimp only
  rw [this, List.map_map]
  rfl
theorem c_lcM {f : α → D} {h : β → D} {di : DenI} {c : Chk} {vs : List Nat} {g : DenG} {e : Den} {E1 : α → DEnv} {xs : List α} {k : α → β} (hi : di ρ st = .ok (xs.map f, c) (S s)) (hc : chkB c (S s) = true) (hg : ∀ x, g (f x) (wipeE ρ vs) (S s) = some (E1 x, S s))
    (he : ∀ x, e (E1 x) (S s) = .ok (h (k x)) (S s)) : TJ (fun l : List β => D.lst (l.map h)) S (dLcB true di vs g (stepE dYes e) ρ st) (lcM xs k s) := by
  have := c_lcP (h := h) (p := fun _ => true) (k := k) (t := dYes) (e := e) hi hc hg (fun _ => rfl) he
  unfold lcP at this
  rwa [List.filter_eq_self.mpr (by simp)] at this
end
end FV

set_option Elab.async false
set_option linter.all false
set_option maxRecDepth 100000
set_option maxHeartbeats 4000000
namespace FV
open PySem PySem.Spec PyProof.Rows L2 Enc

/-! ## own objects of a def, behind the store that it was handed -/
section
variable {b r : DSto} {n : Nat} {o p q u v : DObj}
theorem g0 (h : b.length = n) : (b ++ o :: r)[n]? = some o := by subst h; simp
theorem g1 (h : b.length = n) : (b ++ o :: p :: r)[n + 1]? = some p := by subst h; simp
theorem g2 (h : b.length = n) : (b ++ o :: p :: q :: r)[n + 2]? = some q := by subst h; simp
theorem g3 (h : b.length = n) : (b ++ o :: p :: q :: u :: r)[n + 3]? = some u := by subst h; simp
theorem g4 (h : b.length = n) : (b ++ o :: p :: q :: u :: v :: r)[n + 4]? = some v := by subst h; simp
theorem gB {k : Nat} (h : b[k]? = some o) : (b ++ r)[k]? = some o := by
  rw [List.getElem?_append_left (List.getElem?_eq_some_iff.mp h).1]; exact h
theorem z0 {x : DObj} (h : b.length = n) : (b ++ o :: r).set n x = b ++ x :: r := by subst h; simp
theorem z1 {x : DObj} (h : b.length = n) : (b ++ o :: p :: r).set (n + 1) x = b ++ o :: x :: r := by subst h; simp
theorem z2 {x : DObj} (h : b.length = n) : (b ++ o :: p :: q :: r).set (n + 2) x = b ++ o :: p :: x :: r := by subst h; simp
theorem z3 {x : DObj} (h : b.length = n) : (b ++ o :: p :: q :: u :: r).set (n + 3) x = b ++ o :: p :: q :: x :: r := by subst h; simp
theorem z4 {x : DObj} (h : b.length = n) : (b ++ o :: p :: q :: u :: v :: r).set (n + 4) x = b ++ o :: p :: q :: u :: x :: r := by subst h; simp
theorem l0 (h : b.length = n) : b.length = n := h
theorem l1 (h : b.length = n) : (b ++ [o]).length = n + 1 := by subst h; simp
theorem l2 (h : b.length = n) : (b ++ [o, p]).length = n + 2 := by subst h; simp
theorem l3 (h : b.length = n) : (b ++ [o, p, q]).length = n + 3 := by subst h; simp
theorem l4 (h : b.length = n) : (b ++ [o, p, q, u]).length = n + 4 := by subst h; simp
theorem a0 {x : DObj} : b ++ [x] = b ++ [x] := rfl
theorem a1 {x : DObj} : (b ++ [o]) ++ [x] = b ++ [o, x] := by simp
theorem a2 {x : DObj} : (b ++ [o, p]) ++ [x] = b ++ [o, p, x] := by simp
theorem a3 {x : DObj} : (b ++ [o, p, q]) ++ [x] = b ++ [o, p, q, x] := by simp
theorem a4 {x : DObj} : (b ++ [o, p, q, u]) ++ [x] = b ++ [o, p, q, u, x] := by simp
end
section
variable {Z σ τ α β γ κ : Type} {S : Z → DSto} {s : Z} {ρ : DEnv} {st st' : DSto} {n i : Nat} {N : NR Z σ} {B : NR Z τ} {R : RR Z α} {X : XR Z}

/-! ### making -/
/-- x = [] that is changed later -/
theorem ts_newL {b : DenS} {t : TSt Z σ τ α} (hn : st.length = n) (hs : st ++ [.lst []] = st') (k : TS N B R X (b (ρ.set i (some (.ref n))) st') t) : TS N B R X (dSeq (dAsg i (dLst dNil)) b ρ st) t := by
  subst hn hs; exact k
theorem ts_newLs {es : DenA} {xs : List D} {b : DenS} {t : TSt Z σ τ α} (he : es ρ st = .ok xs st) (hl : Nat.ble xs.length 1000 = true) (hn : st.length = n) (hs : st ++ [.lst xs] = st') (k : TS N B R X (b (ρ.set i (some (.ref n))) st') t) : TS N B R X (dSeq (dAsg i (dLst es)) b ρ st) t := by
  subst hn hs
  refine ts_asgV ?_ k
  unfold dLst
  rw [he]
  exact mkLst_ok (Nat.le_trans (Nat.le_of_ble_eq_true hl) (by rw [szl]; omega))
/-- x = {} that is changed later -/
theorem ts_newD {tt : Bool} {b : DenS} {t : TSt Z σ τ α} (hn : st.length = n) (hs : st ++ [.dct tt []] = st') (k : TS N B R X (b (ρ.set i (some (.ref n))) st') t) : TS N B R X (dSeq (dAsg i (dDct tt)) b ρ st) t := by
  subst hn hs; exact k
/-- x = list(y) that is changed later -/
theorem ts_newR {es : DenA} {x : D} {xs : List D} {b : DenS} {t : TSt Z σ τ α} (he : es ρ st = .ok [x] st) (hi : itemsD x st = some xs) (hn : st.length = n) (hs : st ++ [.lst xs] = st') (k : TS N B R X (b (ρ.set i (some (.ref n))) st') t) : TS N B R X (dSeq (dAsg i (dB' listR es)) b ρ st) t := by
  subst hn hs
  refine ts_asgV ?_ k
  unfold dB'
  rw [he, DRes.bind_ok]
  show ofO ((itemsD x st).map _) = _
  rw [hi]; rfl
/-- x = [.. for ..] that is changed later -/
theorem lc_ref {di : DenI} {vs : List Nat} {g : DenG} {step : DEnv → List D → DSto → Option (List D × DSto)} {xs : List D} {st1 : DSto} (h : dLcB true di vs g step ρ st = .ok (.lst xs) st1) : dLcB false di vs g step ρ st = .ok (.ref st1.length) (st1 ++ [.lst xs]) := by
  rw [dLcB_ap] at h ⊢
  cases q : di ρ st with
  | bad => rw [q] at h; cases h
  | exc c fs st2 => rw [q] at h; cases h
  | ok p st2 =>
    rw [q, DRes.bind_ok] at h
    rw [DRes.bind_ok]
    cases q2 : compL p.2 vs g step ρ p.1 [] st2 with
    | none => rw [q2] at h; cases h
    | some r => obtain ⟨l, st3⟩ := r; rw [q2] at h; cases h; rfl
theorem lc_refX {di : DenI} {vs : List Nat} {g : DenG} {step : DEnv → List D → DSto → Option (List D × DSto)} {c : Nat} {fs : List (Nat × D)} {st1 : DSto} (h : dLcB true di vs g step ρ st = .exc c fs st1) : dLcB false di vs g step ρ st = .exc c fs st1 := by
  rw [dLcB_ap] at h ⊢
  cases q : di ρ st with
  | bad => rw [q] at h; cases h
  | exc c fs st2 => rw [q] at h; exact h
  | ok p st2 =>
    rw [q, DRes.bind_ok] at h
    cases q2 : compL p.2 vs g step ρ p.1 [] st2 with
    | none => rw [q2] at h; cases h
    | some r => obtain ⟨l, st3⟩ := r; rw [q2] at h; cases h
theorem ts_newC {S' : List β → Z → DSto} {h : β → D} {di : DenI} {vs : List Nat} {g : DenG} {step : DEnv → List D → DSto → Option (List D × DSto)} {b : DenS} {ta : RS Z (List β)} {t : List β → Z → TSt Z σ τ α} (he : TJ (fun l : List β => D.lst (l.map h)) S (dLcB true di vs g step ρ st) ta) (hx : ∀ fs s, PF fs → X fs s ρ (S s))
    (hn : ∀ s, (S s).length = n) (hs : ∀ l s, S s ++ [.lst (l.map h)] = S' l s) (k : ∀ l s, TS N B R X (b (ρ.set i (some (.ref n))) (S' l s)) (t l s)) : TS N B R X (dSeq (dAsg i (dLcB false di vs g step)) b ρ st) (ta.bindS t) := by
  cases ta with
  | ok l s =>
    have e := lc_ref (show dLcB true di vs g step ρ st = _ from he)
    rw [hn, hs] at e
    exact ts_asgV e (k l s)
  | exc c fs s =>
    have e := lc_refX (show dLcB true di vs g step ρ st = _ from he.1)
    show TS N B R X (((dLcB false di vs g step ρ st).toS ρ fun x st => .nx (ρ.set i (some x)) st).andThen b) _
    rw [e]; exact ⟨_, _, rfl, hx _ _ he.2⟩
  | bad => trivial

/-! ### changing -/
theorem app_ok {f : α → D} {o : Den} {e : Den} {l : List α} {y : D} (ho : o ρ st = .ok (.ref n) st) (hl : st[n]? = some (.lst (l.map f))) (he : e ρ st = .ok y st) (q : l.length < lim) : dApp o e ρ st = .ok .non (st.set n (.lst (l.map f ++ [y]))) := by
  have sz : (l.map f).length < sizeLine := by rw [List.length_map]; exact Nat.lt_of_lt_of_le q lim_sz
  rw [dApp_ap, ho, DRes.bind_ok]
  dsimp only
  rw [hl]
  dsimp only
  rw [he, DRes.bind_ok]
  try dsimp only
  rw [hl]
  dsimp only
  rw [if_pos sz]
/-- x.append(e) -/
theorem ts_app {f : β → D} {o e : Den} {l : List β} {a : β} {b : DenS} {t : TSt Z σ τ α} (ho : o ρ st = .ok (.ref n) st) (hl : st[n]? = some (.lst (l.map f))) (he : e ρ st = .ok (f a) st) (hs : st.set n (.lst ((l ++ [a]).map f)) = st') (k : TS N B R X (b ρ st') t) : TS N B R X (dSeq (dExpr (dApp o e)) b ρ st) (if l.length < lim then t else .bad) :=
  ts_grd fun q => by
    have e1 := app_ok ho hl he q
    rw [show l.map f ++ [f a] = (l ++ [a]).map f by simp, hs] at e1
    show TS N B R X (((dApp o e ρ st).toS ρ fun _ st => .nx ρ st).andThen b) t
    rw [e1]; exact k
/-- .. the item computed -/
theorem ts_appC {f : β → D} {o e : Den} {l : List β} {S' : β → Z → DSto} {ta : RS Z β} {b : DenS} {t : β → Z → TSt Z σ τ α} (ho : o ρ (S s) = .ok (.ref n) (S s)) (hl : ∀ s, (S s)[n]? = some (.lst (l.map f))) (he : TJ f S (e ρ (S s)) ta) (hx : ∀ fs s, PF fs → X fs s ρ (S s)) (hs : ∀ a s, (S s).set n (.lst ((l ++ [a]).map f)) = S' a s) (k : ∀ a s, TS N B R X (b ρ (S' a s)) (t a s)) :
    TS N B R X (dSeq (dExpr (dApp o e)) b ρ (S s)) (ta.bindS fun a s => if l.length < lim then t a s else .bad) := by
  show TS N B R X (((dApp o e ρ (S s)).toS ρ fun _ st => .nx ρ st).andThen b) _
  rw [dApp_ap, ho, DRes.bind_ok]
  dsimp only
  rw [hl]
  dsimp only
  cases ta with
  | bad => trivial
  | exc c fs s' => rw [show e ρ (S s) = _ from he.1]; exact ⟨_, _, rfl, hx _ _ he.2⟩
  | ok a s' =>
    refine ts_grd fun q => ?_
    have sz : (l.map f).length < sizeLine := by rw [List.length_map]; exact Nat.lt_of_lt_of_le q lim_sz
    rw [show e ρ (S s) = _ from he, DRes.bind_ok]
    try dsimp only
    rw [hl]
    dsimp only
    rw [if_pos sz, show l.map f ++ [f a] = (l ++ [a]).map f by simp, hs]
    exact k a s'
/-- x[i] = e, x a list of the def -/
theorem ts_setL {f : β → D} {d o ii : Den} {l : List β} {a : β} {j : Int} {S' : Nat → DSto} {b : DenS} {t : Nat → TSt Z σ τ α} (hd : d ρ st = .ok (f a) st) (ho : o ρ st = .ok (.ref n) st) (hi : ii ρ st = .ok (en j) st) (hl : st[n]? = some (.lst (l.map f))) (hs : ∀ m, st.set n (.lst ((l.set m a).map f)) = S' m) (k : ∀ m, TS N B R X (b ρ (S' m)) (t m)) :
    TS N B R X (dSeq (dAsgG d (gdSub o ii setO)) b ρ st) (match ixN l.length j with | some m => t m | none => .bad) := by
  show TS N B R X (((d ρ st).toS ρ fun x st => match gdSub o ii setO x ρ st with | some (ρ', st') => .nx ρ' st' | none => .bad).andThen b) _
  rw [hd]
  have e : gdSub o ii setO (f a) ρ st = match (ixN l.length j).map fun m => st.set n (.lst ((l.map f).set m (f a))) with | some st3 => some (ρ, st3) | none => none := by
    rw [gdSub_ap, ho]
    dsimp only
    rw [hi]
    dsimp only
    have : setO (.ref n) (en j) (f a) st = (ixN l.length j).map fun m => st.set n (.lst ((l.map f).set m (f a))) := by
      show (match st[n]? with | some (.dct t kvs) => _ | _ => _) = _
      rw [hl]
      show (match st[n]? with | some (.lst xs) => (ixN xs.length j).map fun m => st.set n (.lst (xs.set m (f a))) | _ => none) = _
      rw [hl]
      dsimp only
      rw [List.length_map]
    rw [this] <;> rfl
  show TS N B R X (DStm.andThen (match gdSub o ii setO (f a) ρ st with | some (ρ', st') => .nx ρ' st' | none => .bad) b) _
  rw [e]
  cases ixN l.length j with
  | none => trivial
  | some m =>
    dsimp only [Option.map_some]
    rw [← List.map_set, hs]
    exact k m
/-- x[k] = e, x a dict of the def -/
theorem ts_setD [EncK κ] [Enc β] [DecidableEq κ] {d o ii : Den} {l : List (κ × β)} {a : β} {q : κ} {b : DenS} {t : TSt Z σ τ α} (hd : d ρ st = .ok (en a) st) (ho : o ρ st = .ok (.ref n) st) (hi : ii ρ st = .ok (en q) st) (hl : st[n]? = some (.dct (EncK.t κ) (l.map fun p => (en p.1, en p.2)))) (hs : st.set n (.dct (EncK.t κ) ((put l q a).map fun p => (en p.1, en p.2))) = st') (k : TS N B R X (b ρ st') t) :
    TS N B R X (dSeq (dAsgG d (gdSub o ii setO)) b ρ st) (if l.length < lim then t else .bad) := ts_grd fun hlen => by
  show TS N B R X (((d ρ st).toS ρ fun x st => match gdSub o ii setO x ρ st with | some (ρ', st') => .nx ρ' st' | none => .bad).andThen b) _
  rw [hd]
  have e : gdSub o ii setO (en a) ρ st = some (ρ, st') := by
    rw [gdSub_ap, ho]
    dsimp only
    rw [hi]
    dsimp only
    have sz : (l.map fun p => ((en p.1, en p.2) : D × D)).length < sizeLine := by rw [List.length_map]; exact Nat.lt_of_lt_of_le hlen lim_sz
    have : setO (.ref n) (en q) (en a) st = some st' := by
      show (match st[n]? with | some (.dct t kvs) => if kvs.length < sizeLine then (dputD t kvs (en q) (en a)).map fun kvs' => st.set n (.dct t kvs') else none | _ => _) = _
      rw [hl]
      dsimp only
      rw [if_pos sz, dput_en, Option.map_some, hs]
    rw [this]
  show TS N B R X (DStm.andThen (match gdSub o ii setO (en a) ρ st with | some (ρ', st') => .nx ρ' st' | none => .bad) b) _
  rw [e]
  exact k
/-- self.f = e -/
theorem ts_setF {c f : Nat} {fs : List (Nat × D)} {o d : Den} {y : D} {b : DenS} {t : TSt Z σ τ α} (hd : d ρ st = .ok y st) (ho : o ρ st = .ok (.ref n) st) (hn : st[n]? = some (.ins c fs)) (hl : Nat.ble fs.length 999 = true) (hs : st.set n (.ins c (putN f y fs)) = st') (k : TS N B R X (b ρ st') t) : TS N B R X (dSeq (dSetF c f o d) b ρ st) t := by
  show TS N B R X (((d ρ st).toS ρ fun y st => (o ρ st).toS ρ fun x st => match setFld c f x y st with | some st => .nx ρ st | none => .bad).andThen b) t
  have e : setFld c f (.ref n) y st = some st' := by
    unfold setFld
    dsimp only
    rw [hn]
    dsimp only
    rw [if_pos ⟨rfl, Nat.lt_succ_of_le (Nat.le_of_ble_eq_true hl)⟩, hs]
  rw [hd]
  show TS N B R X (((o ρ st).toS ρ fun x st => match setFld c f x y st with | some st => .nx ρ st | none => .bad).andThen b) t
  rw [ho]
  show TS N B R X (DStm.andThen (match setFld c f (.ref n) y st with | some st => .nx ρ st | none => .bad) b) t
  rw [e]; exact k
theorem ts_setFC {c f : Nat} {fs : List (Nat × D)} {o d : Den} {ι : β → D} {ta : RS Z β} {S' : β → Z → DSto} {b : DenS} {t : β → Z → TSt Z σ τ α} (hd : TJ ι S (d ρ st) ta) (hx : ∀ fs s, PF fs → X fs s ρ (S s)) (ho : ∀ s, o ρ (S s) = .ok (.ref n) (S s)) (hn : ∀ s, (S s)[n]? = some (.ins c fs)) (hl : Nat.ble fs.length 999 = true) (hs : ∀ a s, (S s).set n (.ins c (putN f (ι a) fs)) = S' a s) (k : ∀ a s, TS N B R X (b ρ (S' a s)) (t a s)) : TS N B R X (dSeq (dSetF c f o d) b ρ st) (ta.bindS t) := by
  show TS N B R X (((d ρ st).toS ρ fun y st => (o ρ st).toS ρ fun x st => match setFld c f x y st with | some st => .nx ρ st | none => .bad).andThen b) _
  cases ta with
  | bad => trivial
  | exc c fs s' => rw [show d ρ st = _ from hd.1]; exact ⟨_, _, rfl, hx _ _ hd.2⟩
  | ok a s' =>
    rw [show d ρ st = _ from hd]
    show TS N B R X (((o ρ (S s')).toS ρ fun x st => match setFld c f x (ι a) st with | some st => .nx ρ st | none => .bad).andThen b) _
    rw [ho]
    have e : setFld c f (.ref n) (ι a) (S s') = some (S' a s') := by
      unfold setFld
      dsimp only
      rw [hn]
      dsimp only
      rw [if_pos ⟨rfl, Nat.lt_succ_of_le (Nat.le_of_ble_eq_true hl)⟩, hs]
    show TS N B R X (DStm.andThen (match setFld c f (.ref n) (ι a) (S s') with | some st => .nx ρ st | none => .bad) b) _
    rw [e]; exact k a s'

/-! ### reading a list or dict of the def -/
theorem b_lenR {f : α → D} {l : List α} (h : st[n]? = some (.lst (l.map f))) : lenO [.ref n] st = some (en (l.length : Int), st) := by
  rw [lenO_ref h, List.length_map]; rfl
theorem b_listRf {xs : List D} (h : st[n]? = some (.lst xs)) : listDO [.ref n] st = some (.lst xs, st) := listDO_ref h
theorem b_tupleR {xs : List D} (h : st[n]? = some (.lst xs)) : tupleO [.ref n] st = some (.tup xs, st) := tupleO_ref h
theorem reify_ref [EncD α] {l : List α} (h : st[n]? = some (.lst (l.map en))) : reify st (.ref n) = some (.list (toPys (l.map en))) := by
  show lookL st (lookL st (lookL st fun _ => none)) n = _
  unfold lookL
  rw [h]
  dsimp only
  rw [pyOfs_ok' _ _ (gds (gds_en l)).1]; rfl
theorem memR [EncD α] [DecidableEq α] {a : α} {l : List α} {neg : Bool} (h : st[n]? = some (.lst (l.map en))) (hd : EncD.dep α ≤ 63) : memO neg (en a) (.ref n) st = some (.bl (if neg then !decide (a ∈ l) else decide (a ∈ l)), st) := by
  have e0 := inO_lst (st := st) (EncD.gd a) (gd_lst (gds_en l)) (by omega) (by omega)
  rw [any_deq] at e0
  have ga := EncD.gd a
  have gl := gd_lst (gds_en l)
  have r1 : reify st (en a) = some (toPy (en a)) := pyOf_ok' _ _ ga.1
  have r2 := reify_ref h
  have s1 := ga.shaped (by omega)
  have s2 : SeqAt.shaped (.list (toPys (l.map en))) = true := gl.shaped (by omega)
  have a1 := toPys_any (en a) (l.map en) ga.1 (gds (gds_en l)).1
  unfold memO
  dsimp only
  rw [r1, r2]
  dsimp only
  rw [if_pos ⟨s1, s2⟩, a1, any_deq]
theorem o_inR [EncD α] [DecidableEq α] {a : α} {l : List α} (h : st[n]? = some (.lst (l.map en))) (hd : EncD.dep α ≤ 63 := by decide) : inO (en a) (.ref n) st = some (en (decide (a ∈ l)), st) := by
  show (match dctD (.ref n) st with | some (t, kvs) => _ | none => memO false (en a) (.ref n) st) = _
  unfold dctD
  dsimp only
  rw [h]
  exact memR h hd
theorem o_ninR [EncD α] [DecidableEq α] {a : α} {l : List α} (h : st[n]? = some (.lst (l.map en))) (hd : EncD.dep α ≤ 63 := by decide) : ninO (en a) (.ref n) st = some (en (!decide (a ∈ l)), st) := by
  show (match dctD (.ref n) st with | some (t, kvs) => _ | none => memO true (en a) (.ref n) st) = _
  unfold dctD
  dsimp only
  rw [h]
  exact memR h hd
theorem dctD_ref {t : Bool} {kvs : List (D × D)} (h : st[n]? = some (.dct t kvs)) : dctD (.ref n) st = some (t, kvs) := by
  unfold dctD
  dsimp only
  rw [h]
theorem o_inDR [EncK κ] [Enc α] [DecidableEq κ] {k : κ} {l : List (κ × α)} (h : st[n]? = some (.dct (EncK.t κ) (l.map fun p => (en p.1, en p.2)))) : inO (en k) (.ref n) st = some (en (look l k).isSome, st) := by
  unfold inO
  rw [dctD_ref h]
  dsimp only
  rw [dget_en, Option.map_some, Option.isSome_map]; rfl
theorem o_ninDR [EncK κ] [Enc α] [DecidableEq κ] {k : κ} {l : List (κ × α)} (h : st[n]? = some (.dct (EncK.t κ) (l.map fun p => (en p.1, en p.2)))) : ninO (en k) (.ref n) st = some (en (!(look l k).isSome), st) := by
  unfold ninO
  rw [dctD_ref h]
  dsimp only
  rw [dget_en, Option.map_some, Option.isSome_map]; rfl
theorem c_ixDR [EncK κ] [Enc α] [DecidableEq κ] {k : κ} {l : List (κ × α)} (h : (S s)[n]? = some (.dct (EncK.t κ) (l.map fun p => (en p.1, en p.2)))) : TJ (en : α → D) S (ofO (ixO (.ref n) (en k) (S s))) (lookT l k s) := by
  unfold ixO
  rw [dctD_ref h]
  dsimp only
  rw [dget_en]; unfold lookT
  cases look l k with
  | some a => exact rfl
  | none => trivial
theorem v_get2R [EncK κ] [Enc α] [DecidableEq κ] {l : List (κ × α)} {k : κ} {a : α} {d d2 d3 : Den} (h : st[n]? = some (.dct (EncK.t κ) (l.map fun p => (en p.1, en p.2)))) (h1 : d ρ st = .ok (.ref n) st) (h2 : d2 ρ st = .ok (en k) st) (h3 : d3 ρ st = .ok (en a) st) : dGet2 d d2 d3 ρ st = .ok (en ((look l k).getD a)) st := by
  unfold dGet2
  rw [h1, DRes.bind_ok, dctD_ref h]
  show (d2 ρ st).bind _ = _
  rw [h2, DRes.bind_ok, h3, DRes.bind_ok]
  unfold getO
  rw [dctD_ref h]
  dsimp only
  rw [dget_en]
  cases look l k <;> rfl
theorem c_ixR {f : α → D} {l : List α} {i : Int} (h : (S s)[n]? = some (.lst (l.map f))) : TJ f S (ofO (ixO (.ref n) (en i) (S s))) (ixT l i s) := by
  rw [show (en i : D) = .int i from rfl, ixO_ref h, atI_map]; unfold ixT
  cases atI l i with
  | some a => exact rfl
  | none => trivial
theorem chk1 {o : DObj} (h : st[n]? = some o) : chkB [(n, o)] st = true := by simp [h]

/-! ### what is walked -/
theorem i_lst {d : Den} {xs : List D} (h : d ρ st = .ok (.lst xs) st) : dISeq d ρ st = .ok (xs, []) st := by unfold dISeq; rw [h]; rfl
theorem i_tup {d : Den} {xs : List D} (h : d ρ st = .ok (.tup xs) st) : dISeq d ρ st = .ok (xs, []) st := by unfold dISeq; rw [h]; rfl
theorem i_sq [EncD α] {d : Den} {l : Sq α} (h : d ρ st = .ok (en l) st) : dISeq d ρ st = .ok (l.l.map en, []) st := by
  obtain ⟨t, l⟩ := l
  cases t
  · exact i_lst h
  · exact i_tup h
theorem i_ref {d : Den} {xs : List D} (h : d ρ st = .ok (.ref n) st) (hn : st[n]? = some (.lst xs)) : dISeq d ρ st = .ok (xs, [(n, .lst xs)]) st := by
  unfold dISeq; rw [h, DRes.bind_ok]; dsimp only; rw [hn]
/-- the ints from lo on, so many -/
def rngT (lo hi : Int) : List Int := (List.range (hi - lo).toNat).map fun k : Nat => lo + k
theorem rngD_T (lo : Int) : ∀ n : Nat, rngD lo n = ((List.range n).map fun k : Nat => lo + k).map D.int := by
  intro n
  induction n generalizing lo with
  | zero => rfl
  | succ n ih =>
    rw [rngD, ih, List.range_succ_eq_map]
    simp only [List.map_cons, List.map_map, List.cons.injEq]
    refine ⟨by simp, ?_⟩
    apply List.map_congr_left
    intro k _
    show D.int (lo + 1 + k) = D.int (lo + ((k + 1 : Nat) : Int))
    congr 1; omega
theorem i_rng1 {a : Den} {j : Int} (ha : a ρ st = .ok (en j) st) (h : -1000000000 ≤ j ∧ j < 1000000000) : dIRng1 a ρ st = .ok ((rngT 0 j).map en, []) st := by
  unfold dIRng1
  rw [ha, DRes.bind_ok]
  show (if -(2 ^ 62) ≤ j ∧ j < 2 ^ 62 then DRes.ok (rngD 0 j.toNat, ([] : Chk)) st else .bad) = _
  rw [if_pos ⟨by omega, by omega⟩, rngD_T]
  unfold rngT
  rw [show (j - 0).toNat = j.toNat by omega]; rfl
theorem i_rng2 {a b : Den} {i j : Int} (ha : a ρ st = .ok (en i) st) (hb : b ρ st = .ok (en j) st) (h : (-1000000000 ≤ i ∧ i < 1000000000) ∧ -1000000000 ≤ j ∧ j < 1000000000) : dIRng2 a b ρ st = .ok ((rngT i j).map en, []) st := by
  unfold dIRng2
  rw [ha, DRes.bind_ok, hb, DRes.bind_ok]
  show (if -(2 ^ 62) ≤ i ∧ i < 2 ^ 62 ∧ -(2 ^ 62) ≤ j ∧ j < 2 ^ 62 then DRes.ok (rngD i (j - i).toNat, ([] : Chk)) st else .bad) = _
  rw [if_pos ⟨by omega, by omega, by omega, by omega⟩, rngD_T]; rfl
/-- range(..) as a computation -/
def rng1 (j : Int) (s : Z) : RS Z (List Int) := if -1000000000 ≤ j ∧ j < 1000000000 then .ok (rngT 0 j) s else .bad
def rng2 (i j : Int) (s : Z) : RS Z (List Int) := if (-1000000000 ≤ i ∧ i < 1000000000) ∧ -1000000000 ≤ j ∧ j < 1000000000 then .ok (rngT i j) s else .bad
theorem ci_rng1 {a : Den} {j : Int} (ha : a ρ (S s) = .ok (en j) (S s)) : TJ (fun l : List Int => (l.map en, ([] : Chk))) S (dIRng1 a ρ (S s)) (rng1 j s) := tj_grd fun h => i_rng1 ha h
theorem ci_rng1C {a : Den} {ta : RS Z Int} (ha : TJ (en : Int → D) S (a ρ st) ta) : TJ (fun l : List Int => (l.map en, ([] : Chk))) S (dIRng1 a ρ st) (ta.bind fun j s => rng1 j s) := by
  cases ta with
  | bad => trivial
  | exc c fs s => refine ⟨?_, ha.2⟩; show dIRng1 a ρ st = .exc c fs (S s); unfold dIRng1; rw [show a ρ st = _ from ha.1]; rfl
  | ok j s =>
    have := ci_rng1 (S := S) (s := s) (ρ := ρ) (a := fun _ st => .ok (en j) st) (j := j) rfl
    show TJ _ S (dIRng1 a ρ st) (rng1 j s)
    unfold dIRng1 at this ⊢
    rw [show a ρ st = _ from ha]; exact this
theorem ci_rng2 {a b : Den} {i j : Int} (ha : a ρ (S s) = .ok (en i) (S s)) (hb : b ρ (S s) = .ok (en j) (S s)) : TJ (fun l : List Int => (l.map en, ([] : Chk))) S (dIRng2 a b ρ (S s)) (rng2 i j s) := tj_grd fun h => i_rng2 ha hb h
theorem i_keys [Enc α] {d : Den} {l : Dc Name α} (h : d ρ st = .ok (en l) st) : dIKeys d ρ st = .ok ((l.l.map (·.1)).map en, []) st := by
  rw [dIKeys_ap, h, DRes.bind_ok]
  show DRes.ok ((l.l.map fun p => (en p.1, en p.2)).map (·.1), ([] : Chk)) st = _
  rw [List.map_map, List.map_map]; rfl
theorem i_items [Enc α] {d : Den} {l : Dc Name α} (h : d ρ st = .ok (en l) st) : dIItems d ρ st = .ok (l.l.map fun p => .tup [en p.1, en p.2], []) st := by
  rw [dIItems_ap, h, DRes.bind_ok]
  show DRes.ok ((l.l.map fun p => (en p.1, en p.2)).map fun p => D.tup [p.1, p.2], ([] : Chk)) st = _
  rw [List.map_map]; rfl
theorem b_listD [Enc α] {l : Dc Name α} (h : l.l.length < lim) : listDO [en l] st = some (en (l.l.map (·.1)), st) := by
  have := listDO_dct (st := st) (kvs := l.l.map fun p => (en p.1, en p.2)) (by rw [List.length_map]; exact Nat.le_of_lt (Nat.lt_of_lt_of_le h lim_sz))
  rw [show (en l : D) = .dct false (l.l.map fun p => (en p.1, en p.2)) from rfl, this, List.map_map]
  show some (D.lst _, st) = some (D.lst _, st)
  rw [List.map_map]; rfl

/-! ### ends -/
class Pu (α : Type) [Enc α] : Prop where
  pu : ∀ a : α, Pure (en a)
instance [EncD α] : Pu α := ⟨EncD.pu⟩
instance [EncD α] : Pu (Option α) := ⟨fun a => by
  cases a
  · exact pure_non
  · exact EncD.pu _⟩
instance : Pu Dat := ⟨Dat.pu⟩
theorem pure_dct {t : Bool} {κ α : Type} [EncD κ] [Enc α] [Pu α] (l : List (κ × α)) : Pure (.dct t (l.map fun p => (en p.1, en p.2))) := fun lo lk => by
  have : rsk lo lk (l.map fun p => (en p.1, en p.2)) = some (l.map fun p => (en p.1, en p.2)) := by
    induction l with
    | nil => rfl
    | cons p l ih => simp [rsk, EncD.pu p.1 lo lk, Pu.pu p.2 lo lk, ih]
  show (rsk lo lk _).map (D.dct t) = _
  rw [this]; rfl
instance [EncK κ] [Enc α] [Pu α] : Pu (Dc κ α) := ⟨fun a => pure_dct a.l⟩
theorem rp_v [Enc α] [Pu α] {a : α} {S : Z → DSto} {b0 : DSto} (h : popS b0 st = some (S s)) : RP0 S b0 a s (en a) st := ⟨Pu.pu a _ _, h⟩
theorem rp_r [EncD α] {l : List α} {S : Z → DSto} {b0 : DSto} (hn : ¬ n < b0.length) (hl : st[n]? = some (.lst (l.map en))) (h : popS b0 st = some (S s)) : RP0 S b0 l s (.ref n) st := ⟨fzD_lst hn hl (pures_en l), h⟩
theorem fz_lst [EncD α] {l : List α} {lo : Nat} (hn : ¬ n < lo) (hl : st[n]? = some (.lst (l.map en))) : fzD lo st (.ref n) = some (en l) := fzD_lst hn hl (pures_en l)
theorem rp_rd [EncK κ] [Enc α] [Pu α] {l : List (κ × α)} {S : Z → DSto} {b0 : DSto} (hn : ¬ n < b0.length) (hl : st[n]? = some (.dct (EncK.t κ) (l.map fun p => (en p.1, en p.2)))) (h : popS b0 st = some (S s)) : RP0 S b0 (Dc.mk l) s (.ref n) st := ⟨by
  unfold fzD rs fzK
  rw [if_neg hn]
  generalize (rlk b0.length st (rlk b0.length st (rlk b0.length st fun _ => none))) = lk
  unfold rlk
  rw [hl]
  have := pure_dct (t := EncK.t κ) l b0.length lk
  exact this, h⟩
theorem fz_dct [EncK κ] [Enc α] [Pu α] {l : List (κ × α)} {lo : Nat} (hn : ¬ n < lo) (hl : st[n]? = some (.dct (EncK.t κ) (l.map fun p => (en p.1, en p.2)))) : fzD lo st (.ref n) = some (en (Dc.mk l)) := by
  unfold fzD rs fzK
  rw [if_neg hn]
  generalize (rlk lo st (rlk lo st (rlk lo st fun _ => none))) = lk
  unfold rlk
  rw [hl]
  exact pure_dct (t := EncK.t κ) l lo lk
/-! a block whose own objects are told by value at its end -/
theorem ts_popB {σ₁ : Type} {E1 E2 : σ₁ → DEnv} {S1 S2 : σ₁ → Z → DSto} {b : DenS} {ta : TSt Z σ₁ τ α} (h : TS (NE E1 S1) B R X (b ρ st) ta) (hE : ∀ v s, popE st.length (S1 v s) ρ (E1 v) = some (E2 v)) (hS : ∀ v s, popS st (S1 v s) = some (S2 v s)) : TS (NE E2 S2) B R X (popB b ρ st) ta := by
  cases ta with
  | nx v s => obtain ⟨ρ', st', e, rfl, rfl⟩ := h; exact ⟨_, _, popB_nx e (hE v s) (hS v s), rfl, rfl⟩
  | bk v s => obtain ⟨ρ', st', e, h⟩ := h; exact ⟨_, _, by unfold popB; rw [e], h⟩
  | ct v s => obtain ⟨ρ', st', e, h⟩ := h; exact ⟨_, _, by unfold popB; rw [e], h⟩
  | rt a s => obtain ⟨ρ', st', e, h⟩ := h; exact ⟨_, _, by unfold popB; rw [e], h⟩
  | exc c fs s => obtain ⟨ρ', st', e, h⟩ := h; exact ⟨_, _, by unfold popB; rw [e], h⟩
  | bad => trivial
section
variable {lo : Nat} {o : Option D} {os ps qs : DEnv}
theorem pe_nil : popE lo st [] [] = some [] := rfl
theorem pe_same (h : popE lo st os ps = some qs) : popE lo st (o :: os) (o :: ps) = some (o :: qs) := by
  unfold popE; rw [if_pos rfl, h]; rfl
theorem pe_none (h : popE lo st os ps = some qs) : popE lo st (o :: os) (none :: ps) = some (none :: qs) := by
  unfold popE
  split
  · rename_i q; rw [← q, h]; rfl
  · rw [h]; rfl
theorem pe_val {d : D} (p : Pure d) (h : popE lo st os ps = some qs) : popE lo st (o :: os) (some d :: ps) = some (some d :: qs) := by
  unfold popE
  split
  · rename_i q; rw [← q, h]; rfl
  · dsimp only
    rw [show fzD lo st d = some d from p _ _, Option.bind_some, h]; rfl
theorem pe_ref {d e : D} (p : fzD lo st d = some e) (h : popE lo st os ps = some qs) : popE lo st (none :: os) (some d :: ps) = some (some e :: qs) := by
  unfold popE
  rw [if_neg (by intro z; cases z)]
  dsimp only
  rw [p, Option.bind_some, h]; rfl
end
theorem pS0 {b r : DSto} : popS b (b ++ r) = some b := popS_app
theorem pS1 {b r : DSto} {o : DObj} : popS (b ++ [o]) (b ++ o :: r) = some (b ++ [o]) := by
  have := popS_app (st := b ++ [o]) (ν := r)
  rwa [List.append_assoc] at this
theorem pS2 {b r : DSto} {o p : DObj} : popS (b ++ [o, p]) (b ++ o :: p :: r) = some (b ++ [o, p]) := by
  have := popS_app (st := b ++ [o, p]) (ν := r)
  rwa [List.append_assoc] at this
theorem tn_t {ws : List Nat} {ρ2 ρ3 : DEnv} {st2 st3 : DSto} (h1 : popE st.length st2 ρ (wipeE ρ2 ws) = some ρ3) (h2 : popS st st2 = some st3) : turnE true ws ρ st ρ2 st2 = some (ρ3, st3) := by
  unfold turnE
  rw [if_pos rfl, h1, h2]; rfl

/-! ### try, except -/
theorem ts_try {b : DenS} {hs : List Hd} {tb : TSt Z σ τ α} {th : Nat → List (Nat × D) → Z → TSt Z σ τ α} (h : TS N B R (fun fs s ρ' st' => (ρ' = ρ ∧ st' = S s) ∧ PF fs) (b ρ st) tb) (k : ∀ c fs s, PF fs → TS N B R X (dHandle c fs hs ρ (S s)) (th c fs s)) : TS N B R X (dTry b hs ρ st) (tb.catch th) := by
  rw [dTry_ap]
  cases tb with
  | nx v s => obtain ⟨ρ', st', e, h⟩ := h; rw [e]; exact ⟨_, _, rfl, h⟩
  | bk v s => obtain ⟨ρ', st', e, h⟩ := h; rw [e]; exact ⟨_, _, rfl, h⟩
  | ct v s => obtain ⟨ρ', st', e, h⟩ := h; rw [e]; exact ⟨_, _, rfl, h⟩
  | rt a s => obtain ⟨ρ', st', e, h⟩ := h; rw [e]; exact ⟨_, _, rfl, h⟩
  | exc c fs s => obtain ⟨ρ', st', e, ⟨rfl, rfl⟩, p⟩ := h; rw [e]; exact k c fs s p
  | bad => trivial
def hdT (o : Option Bool) (a b : TSt Z σ τ α) : TSt Z σ τ α := match o with
  | none => .bad
  | some true => a
  | some false => b
theorem ts_hd {c : Nat} {fs : List (Nat × D)} {sub : List (Nat × Bool)} {slot : Option Nat} {su : DenS} {r : List Hd} {t1 t2 : TSt Z σ τ α} (h1 : TS N B R X (finE slot ρ st (su (onE slot c fs ρ) st)) t1) (h2 : TS N B R X (dHandle c fs r ρ st) t2) : TS N B R X (dHandle c fs (⟨sub, slot, su⟩ :: r) ρ st) (hdT (subD sub c) t1 t2) := by
  rw [dHandle_cons]
  dsimp only
  cases subD sub c with
  | none => trivial
  | some b => cases b with
    | true => exact h1
    | false => exact h2
theorem ts_hd0 {c : Nat} {fs : List (Nat × D)} (hx : X fs s ρ st) : TS N B R X (dHandle c fs [] ρ st) (.exc c fs s) := ⟨_, _, rfl, hx⟩
/-- a suite that hands back -/
theorem ts_su {slot : Option Nat} {r : DStm} {t : TSt Z σ τ α} (h : TS NF NF (fun a s d st' => (nox d = true ∧ st' = st) ∧ R a s d st') (fun _ _ _ _ => False) r t) : TS N B R X (finE slot ρ st r) t := by
  cases t with
  | nx v s => obtain ⟨_, _, _, h⟩ := h; exact h.elim
  | bk v s => obtain ⟨_, _, _, h⟩ := h; exact h.elim
  | ct v s => obtain ⟨_, _, _, h⟩ := h; exact h.elim
  | exc c fs s => obtain ⟨_, _, _, h⟩ := h; exact h.elim
  | rt a s =>
    obtain ⟨d, st', e, ⟨h1, h2⟩, h⟩ := h
    rw [e, finE_rt, if_pos ⟨h1, h2⟩]; exact ⟨_, _, rfl, h⟩
  | bad => trivial
class Dec (α : Type) [Enc α] where
  de : D → Option α
  de_ok : ∀ d a, de d = some a → d = en a
open Classical in
noncomputable instance : Dec Name where
  de d := match d with
    | .str z => if h : PyData.strOk z = true ∧ z.length ≤ 16 then some ⟨z, h.1, h.2⟩ else none
    | _ => none
  de_ok d a h := by
    cases d with
    | str z =>
      dsimp only at h
      split at h
      · cases h; rfl
      · cases h
    | _ => cases h
/-- e.f of a caught error -/
noncomputable def exfT (α : Type) [Enc α] [Dec α] (k : Nat) (fs : List (Nat × D)) (s : Z) : RS Z α := match (getN k fs).bind Dec.de with
  | some a => .ok a s
  | none => .bad
theorem c_exf [Enc α] [Dec α] {k c : Nat} {fs : List (Nat × D)} {d : Den} (h : d ρ (S s) = .ok (.exv c fs) (S s)) : TJ (en : α → D) S (dExf k d ρ (S s)) (exfT α k fs s) := by
  rw [dExf_ap, h, DRes.bind_ok]
  dsimp only
  unfold exfT
  cases q : getN k fs with
  | none => trivial
  | some v =>
    rw [Option.bind_some]
    cases q2 : (Dec.de v : Option α) with
    | none => trivial
    | some a => show DRes.ok v (S s) = _; rw [Dec.de_ok _ _ q2]
@[simp] theorem de_en (a : Name) : (Dec.de (en a) : Option Name) = some a := by
  show (if h : PyData.strOk a.s = true ∧ a.s.length ≤ 16 then some (⟨a.s, h.1, h.2⟩ : Name) else none) = _
  rw [dif_pos ⟨a.ok, a.sz⟩]
def isET (l : List (Nat × Bool)) (c : Nat) (s : Z) : RS Z Bool := match subD l c with
  | some b => .ok b s
  | none => .bad
theorem c_isE {c : Nat} {fs : List (Nat × D)} {l : List (Nat × Bool)} {d : Den} (h : d ρ (S s) = .ok (.exv c fs) (S s)) : TJ (en : Bool → D) S (dIsE l d ρ (S s)) (isET l c s) := by
  rw [dIsE_ap, h, DRes.bind_ok]
  dsimp only
  unfold isET
  cases subD l c with
  | none => trivial
  | some b => exact rfl
end
end FV

set_option Elab.async false
set_option linter.all false
set_option maxRecDepth 100000
set_option maxHeartbeats 4000000
namespace FV
open PySem PySem.Spec PyProof.Rows L2 Enc
section
variable {Z σ τ α β γ δ κ : Type} {S : Z → DSto} {s : Z} {ρ : DEnv} {st st' : DSto} {n i : Nat} {N : NR Z σ} {B : NR Z τ} {R : RR Z α} {X : XR Z} {ι : α → δ}
theorem ofo {x : D} {o : Option (D × DSto)} (h : o = some (x, st)) : ofO o = .ok x st := by rw [h]; rfl
theorem tk_V {d : Den} {rest : DenA} {K : List D → DSto → DRes δ} {x : D} {t : RS Z α} (h : d ρ st = .ok x st) (k : TJ ι S ((rest ρ st).bind fun xs st => K (x :: xs) st) t) : TJ ι S ((dCons d rest ρ st).bind K) t := by
  have e : (dCons d rest ρ st).bind K = (rest ρ st).bind fun xs st => K (x :: xs) st := by
    rw [dCons_ap, h, DRes.bind_ok]
    cases rest ρ st <;> rfl
  rw [e]; exact k
theorem tk_C {d : Den} {rest : DenA} {K : List D → DSto → DRes δ} {ι' : β → D} {ta : RS Z β} {t : β → Z → RS Z α} (h : TJ ι' S (d ρ st) ta) (k : ∀ a s, TJ ι S ((rest ρ (S s)).bind fun xs st => K (ι' a :: xs) st) (t a s)) : TJ ι S ((dCons d rest ρ st).bind K) (ta.bind t) := by
  cases ta with
  | bad => trivial
  | exc c fs s =>
    refine ⟨?_, h.2⟩
    rw [dCons_ap, show d ρ st = _ from h.1]; rfl
  | ok a s =>
    have e : (dCons d rest ρ st).bind K = (rest ρ (S s)).bind fun xs st => K (ι' a :: xs) st := by
      rw [dCons_ap, show d ρ st = _ from h, DRes.bind_ok]
      cases rest ρ (S s) <;> rfl
    rw [e]; exact k a s
theorem tk_nil {K : List D → DSto → DRes δ} {t : RS Z α} (k : TJ ι S (K [] st) t) : TJ ι S ((dNil ρ st).bind K) t := k
/-- a call of a def by values -/
theorem c_call {G : FnD} {es : DenA} {xs : List D} {ι : α → D} {t : RS Z α} (h : es ρ st = .ok xs st) (k : TJ ι S (G xs st) t) : TJ ι S (dCall G es ρ st) t := by
  unfold dCall; rw [h]; exact k
theorem isInsD {x : D} {c : Nat} {fs : List (Nat × D)} (h : insD x st = some (c, fs)) : isIns c x st = true := by
  unfold isIns; rw [h]; simp
theorem insR {c : Nat} {fs : List (Nat × D)} (h : st[n]? = some (.ins c fs)) : insD (.ref n) st = some (c, fs) := insD_ref h
theorem f_of {x y : D} {c k : Nat} {fs : List (Nat × D)} (h : insD x st = some (c, fs)) (g : getN k fs = some y) : fldD k x st = .ok y st := by
  unfold fldD; rw [h]; dsimp only; rw [g]
/-- o.m(..) by values -/
theorem c_meth {G : FnD} {o : Den} {es : DenA} {x : D} {c : Nat} {fs : List (Nat × D)} {xs : List D} {ι : α → D} {t : RS Z α} (ho : o ρ st = .ok x st) (hx : insD x st = some (c, fs)) (h : es ρ st = .ok xs st) (k : TJ ι S (G (x :: xs) st) t) : TJ ι S (dMeth c G o es ρ st) t := by
  rw [dMeth_ap, ho, DRes.bind_ok, if_pos (isInsD hx), h]; exact k
/-- .. the arguments computed -/
theorem c_methK {G : FnD} {o : Den} {es : DenA} {x : D} {c : Nat} {fs : List (Nat × D)} {ι : α → D} {t : RS Z α} (ho : o ρ st = .ok x st) (hx : insD x st = some (c, fs)) (k : TJ ι S ((es ρ st).bind fun ds st => G (x :: ds) st) t) : TJ ι S (dMeth c G o es ρ st) t := by
  rw [dMeth_ap, ho, DRes.bind_ok, if_pos (isInsD hx)]; exact k
def RS.okOnly (t : RS Z α) : RS Z α := match t with
  | .ok a s => .ok a s
  | _ => .bad
@[simp] theorem RS.okOnly_ok {a : α} : (RS.ok a s).okOnly = .ok a s := id rfl
theorem c_prop {G : FnD} {o : Den} {x : D} {c : Nat} {fs : List (Nat × D)} {ι : α → D} {t : RS Z α} (ho : o ρ st = .ok x st) (hx : insD x st = some (c, fs)) (k : TJ ι S (G [x] st) t) : TJ ι S (dProp c G o ρ st) t.okOnly := by
  rw [dProp_ap, ho, DRes.bind_ok, if_pos (isInsD hx)]
  cases t with
  | ok a s => rw [show G [x] st = _ from k]; exact rfl
  | exc c fs s => trivial
  | bad => trivial
theorem o_own2 {G : FnD} {x y : D} {c : Nat} {fs gs : List (Nat × D)} {z : D} (hx : insD x st = some (c, fs)) (hy : insD y st = some (c, gs)) (h : G [x, y] st = .ok z st) : own2 c G x y st = some (z, st) := by
  unfold own2; rw [if_pos ⟨isInsD hx, isInsD hy⟩, h]; rfl
/-- C(..) told by value -/
def TSt.mk (t : TSt Z σ τ Unit) : RS Z σ := match t with
  | .nx v s => .ok v s
  | .exc c fs s => .exc c fs s
  | _ => .bad
@[simp] theorem TSt.mk_nx {v : σ} {s : Z} : (TSt.nx v s : TSt Z σ τ Unit).mk = .ok v s := id rfl
@[simp] theorem TSt.mk_exc {c : Nat} {fs} {s : Z} : (TSt.exc c fs s : TSt Z σ τ Unit).mk = .exc c fs s := id rfl
@[simp] theorem TSt.mk_bad : (TSt.bad : TSt Z σ τ Unit).mk = .bad := id rfl
theorem mk_ite {c : Prop} [Decidable c] {a b : TSt Z σ τ Unit} : (if c then a else b).mk = if c then a.mk else b.mk := by split <;> rfl
/-- a new object's own body, told by value -/
theorem tf_mkV [Enc σ] [Pu σ] {c n N' : Nat} {b : DenS} {ds : List D} {F : σ → List (Nat × D)} {t : TSt Z σ τ Unit} (hn : ds.length + 1 = n) (hp : ∀ s0 s L, popS (S s0) (S s ++ L) = some (S s)) (hF : ∀ v : σ, en v = .ins c (F v)) (hlen : st.length = i)
    (h : TS (fun v s _ st' => st' = S s ++ [.ins c (F v)]) (NF : NR Z τ) (fun _ _ _ _ => False) (fun fs s _ st' => (∃ L, st' = S s ++ L) ∧ PF fs) (b ((.ref i :: ds).map some ++ List.replicate (N' - n) none) (st ++ [.ins c []])) t) (s0 : Z) (hst : st = S s0) (hl : ∀ s, (S s).length = i) : TJ en S (mkObjV c (bodyF n N' b) ds st) t.mk := by
  rw [mkObjV_ap]
  unfold mkObj
  rw [hlen]
  have hn' : (D.ref i :: ds).length = n := by simpa using hn
  rw [bodyF_ap hn', hn']
  cases t with
  | bk v s => trivial
  | ct v s => trivial
  | rt a s => trivial
  | bad => trivial
  | nx v s =>
    obtain ⟨ρ', st', e, rfl⟩ := h
    rw [e]
    show popR st (.ok (.ref i) (S s ++ [.ins c (F v)])) = .ok (en v) (S s)
    have hpu : Pure (.ins c (F v)) := by rw [← hF v]; exact Pu.pu v
    have hpu' : ∀ lo lk, rsf lo lk (F v) = some (F v) := fun lo lk => by
      have := hpu lo lk
      unfold rs at this
      cases q : rsf lo lk (F v) with
      | none => rw [q] at this; cases this
      | some g => rw [q] at this; cases this; rfl
    refine popR_ok ?_ (by rw [hst]; exact hp s0 s _)
    rw [hF v]
    have hlo : ¬ i < st.length := by omega
    exact fzD_ins hlo (by rw [← hl s]; simp) (hpu' _ _)
  | exc c' fs s =>
    obtain ⟨ρ', st', e, ⟨L, rfl⟩, p⟩ := h
    rw [e]
    refine ⟨?_, p⟩
    show popR st (.exc c' fs (S s ++ L)) = .exc c' fs (S s)
    unfold popR
    have e1 : popS st (S s ++ L) = some (S s) := by rw [hst]; exact hp s0 s L
    simp only [show fzF st.length (S s ++ L) fs = some fs from p _ _, e1]
theorem ts_wp {ws : List Nat} {E : σ → DEnv} {S₁ : σ → Z → DSto} {a : DenS} {t : TSt Z σ τ α} (h : TS (fun v s ρ st => wipeE ρ ws = E v ∧ st = S₁ v s) B R X (a ρ st) t) : TS (NE E S₁) B R X (dWp ws a ρ st) t := by
  unfold dWp
  cases t with
  | nx v s => obtain ⟨ρ', st', e, h1, h2⟩ := h; rw [e]; exact ⟨_, _, rfl, h1, h2⟩
  | bk v s => obtain ⟨ρ', st', e, h⟩ := h; rw [e]; exact ⟨_, _, rfl, h⟩
  | ct v s => obtain ⟨ρ', st', e, h⟩ := h; rw [e]; exact ⟨_, _, rfl, h⟩
  | rt a s => obtain ⟨ρ', st', e, h⟩ := h; rw [e]; exact ⟨_, _, rfl, h⟩
  | exc c fs s => obtain ⟨ρ', st', e, h⟩ := h; rw [e]; exact ⟨_, _, rfl, h⟩
  | bad => trivial
/-- x += e -/
theorem ts_aug {f : OpD} {d : Den} {x y z : D} {b : DenS} {t : TSt Z σ τ α} (hv : ρ[i]? = some (some x)) (hd : d ρ st = .ok y st) (hf : f x y st = some (z, st)) (k : TS N B R X (b (ρ.set i (some z)) st) t) : TS N B R X (dSeq (dAug i d f) b ρ st) t := by
  have e : dAug i d f ρ st = .nx (ρ.set i (some z)) st := by
    rw [dAug_ap, hv]
    dsimp only
    rw [hd]
    show (match f x y st with | some (z, st) => DStm.nx (ρ.set i (some z)) st | none => .bad) = _
    rw [hf]
  show TS N B R X ((dAug i d f ρ st).andThen b) t
  rw [e]; exact k
theorem ts_augC {f : OpD} {d : Den} {ι : β → D} {x : D} {ta : RS Z β} {z : β → D} {b : DenS} {t : β → Z → TSt Z σ τ α} (hv : ρ[i]? = some (some x)) (hd : TJ ι S (d ρ st) ta) (hx : ∀ fs s, PF fs → X fs s ρ (S s)) (hf : ∀ a s, f x (ι a) (S s) = some (z a, S s)) (k : ∀ a s, TS N B R X (b (ρ.set i (some (z a))) (S s)) (t a s)) : TS N B R X (dSeq (dAug i d f) b ρ st) (ta.bindS t) := by
  show TS N B R X ((dAug i d f ρ st).andThen b) _
  rw [dAug_ap, hv]
  dsimp only
  cases ta with
  | bad => trivial
  | exc c fs s => rw [show d ρ st = _ from hd.1]; exact ⟨_, _, rfl, hx _ _ hd.2⟩
  | ok a s =>
    rw [show d ρ st = _ from hd]
    show TS N B R X (DStm.andThen (match f x (ι a) (S s) with | some (z, st) => DStm.nx (ρ.set i (some z)) st | none => .bad) b) _
    rw [hf]; exact k a s
theorem o_iadd {a b : Int} : iaddO (en a) (en b) st = some (en (a + b), st) := rfl
/-- a, b = e -/
theorem ts_asgT {d : Den} {g : DenG} {x : D} {ρ' : DEnv} {b : DenS} {t : TSt Z σ τ α} (h : d ρ st = .ok x st) (hg : g x ρ st = some (ρ', st)) (k : TS N B R X (b ρ' st) t) : TS N B R X (dSeq (dAsgG d g) b ρ st) t := by
  have e : dAsgG d g ρ st = .nx ρ' st := by
    rw [dAsgG_ap, h]
    show (match g x ρ st with | some (ρ', st') => DStm.nx ρ' st' | none => .bad) = _
    rw [hg]
  show TS N B R X ((dAsgG d g ρ st).andThen b) t
  rw [e]; exact k
theorem ts_asgTC {d : Den} {g : DenG} {ι : β → D} {ta : RS Z β} {E : β → DEnv} {b : DenS} {t : β → Z → TSt Z σ τ α} (h : TJ ι S (d ρ st) ta) (hx : ∀ fs s, PF fs → X fs s ρ (S s)) (hg : ∀ a s, g (ι a) ρ (S s) = some (E a, S s)) (k : ∀ a s, TS N B R X (b (E a) (S s)) (t a s)) : TS N B R X (dSeq (dAsgG d g) b ρ st) (ta.bindS t) := by
  show TS N B R X ((dAsgG d g ρ st).andThen b) _
  rw [dAsgG_ap]
  cases ta with
  | bad => trivial
  | exc c fs s => rw [show d ρ st = _ from h.1]; exact ⟨_, _, rfl, hx _ _ h.2⟩
  | ok a s =>
    rw [show d ρ st = _ from h]
    show TS N B R X (DStm.andThen (match g (ι a) ρ (S s) with | some (ρ', st') => DStm.nx ρ' st' | none => .bad) b) _
    rw [hg]; exact k a s
/-- a if x is None else b, x told -/
theorem c_ifT {t : DenT} {a b : Den} {ι : α → D} {r : RS Z α} (ht : t ρ st = .ok true st) (k : TJ ι S (a ρ st) r) : TJ ι S (dIf t a b ρ st) r := by
  rw [dIf_ap, ht, DRes.bind_ok, if_pos rfl]; exact k
theorem c_ifF {t : DenT} {a b : Den} {ι : α → D} {r : RS Z α} (ht : t ρ st = .ok false st) (k : TJ ι S (b ρ st) r) : TJ ι S (dIf t a b ρ st) r := by
  rw [dIf_ap, ht, DRes.bind_ok, if_neg Bool.false_ne_true]; exact k
theorem is_none : isO (.non) .non st = some (.bl true, st) := by
  show some (D.bl (decide (D.non = .non)), st) = _
  rw [decide_eq_true rfl]
theorem is_some {x : D} (h : x ≠ .non) : isO x .non st = some (.bl false, st) := by
  show some (D.bl (decide (x = .non)), st) = _
  rw [decide_eq_false h]
/-- (*xs, y) and the like -/
theorem va_star {a : Den} {r : DenA} {x : D} {ys xs : List D} (ha : a ρ st = .ok x st) (hi : itemsD x st = some ys) (hr : r ρ st = .ok xs st) : dStar a r ρ st = .ok (ys ++ xs) st := by
  rw [dStar_ap, ha, DRes.bind_ok]
  try dsimp only
  rw [hi]
  try dsimp only
  rw [hr]; rfl
def vtT (l : List α) (s : Z) : RS Z (Vt α) := if l.length ≤ lim then .ok ⟨l⟩ s else .bad
def lsT (l : List α) (s : Z) : RS Z (List α) := if l.length ≤ lim then .ok l s else .bad
theorem c_tupS [EncD α] {r : DenA} {xs : List D} {l : List α} (h : r ρ (S s) = .ok xs (S s)) (he : xs = l.map en) : TJ (en : Vt α → D) S (dTup r ρ (S s)) (vtT l s) := tj_grd fun q => by
  subst he
  show dTup r ρ (S s) = _
  unfold dTup
  rw [h]
  exact mkTup_ok (by rw [List.length_map]; exact Nat.le_trans q lim_sz)
theorem c_lstS [EncD α] {r : DenA} {xs : List D} {l : List α} (h : r ρ (S s) = .ok xs (S s)) (he : xs = l.map en) : TJ (en : List α → D) S (dLstV r ρ (S s)) (lsT l s) := tj_grd fun q => by
  subst he
  show dLstV r ρ (S s) = _
  unfold dLstV
  rw [h]
  exact mkLstV_ok (by rw [List.length_map]; exact Nat.le_trans q lim_sz)
theorem bad_ok {r : DRes δ} : TJ ι S r .bad := trivial
def modT (a b : Int) (s : Z) : RS Z Int := if 0 < b then .ok (a % b) s else .bad
def fdivT (a b : Int) (s : Z) : RS Z Int := if 0 < b ∧ b < 1073741824 then .ok (a / b) s else .bad
def mulT (a b : Int) (s : Z) : RS Z Int := if (-(2 ^ 64) < a ∧ a < 2 ^ 64) ∨ (-(2 ^ 64) < b ∧ b < 2 ^ 64) then .ok (a * b) s else .bad
def catT (a b : List α) (s : Z) : RS Z (List α) := if a.length + b.length ≤ lim then .ok (a ++ b) s else .bad
def catV (a b : Vt α) (s : Z) : RS Z (Vt α) := if a.l.length + b.l.length ≤ lim then .ok ⟨a.l ++ b.l⟩ s else .bad
theorem t_mod {a b : Int} : TJ (en : Int → D) S (ofO (modO (en a) (en b) (S s))) (modT a b s) := c_mod
theorem t_fdiv {a b : Int} : TJ (en : Int → D) S (ofO (fdivO (en a) (en b) (S s))) (fdivT a b s) := c_fdiv
theorem t_mul {a b : Int} : TJ (en : Int → D) S (ofO (mulO (en a) (en b) (S s))) (mulT a b s) := c_mul
theorem t_cat [EncD α] {a b : List α} : TJ (en : List α → D) S (ofO (addO (en a) (en b) (S s))) (catT a b s) := c_cat (f := en) rfl
theorem t_catV [EncD α] {a b : Vt α} : TJ (en : Vt α → D) S (ofO (addO (en a) (en b) (S s))) (catV a b s) := by
  have := c_catT (Z := Z) (S := S) (s := s) (f := (en : α → D)) (l := a.l) (m := b.l) rfl
  unfold catV
  split
  · rename_i h; rw [if_pos h] at this; exact this
  · trivial
/-- len(set(t)) of names -/
theorem v_lenSet {d : Den} {l : List Name} (h : d ρ st = .ok (.tup (l.map en)) st) (hl : l.length ≤ 1000) : dLenSet d ρ st = .ok (en ((once ((l.map Name.s).reverse)).length : Int)) st := by
  have e : ∀ l : List Name, txtsD (l.map (en : Name → D)) = some (l.map Name.s) := by
    intro l
    induction l with
    | nil => rfl
    | cons a l ih =>
      show (txtsD (l.map en)).map (fun l => a.s :: l) = _
      rw [ih]; rfl
  rw [dLenSet_ap, h, DRes.bind_ok]
  dsimp only
  rw [e]
  dsimp only
  rw [if_pos (by rw [List.length_map]; exact hl)]; rfl
def lenSetT (l : List Name) (s : Z) : RS Z Int := if l.length ≤ 1000 then .ok ((once ((l.map Name.s).reverse)).length : Int) s else .bad
theorem c_lenSet {d : Den} {l : List Name} (h : d ρ (S s) = .ok (.tup (l.map en)) (S s)) : TJ (en : Int → D) S (dLenSet d ρ (S s)) (lenSetT l s) := tj_grd fun q => v_lenSet h q
/-- range, where its ends are known to be small -/
theorem ts_iterC {pop : Bool} {ws : List Nat} {di : DenI} {g : DenG} {b : DenS} {f : β → D} {c : Chk} {ti : RS Z (List β)} {t : List β → Z → TSt Z σ τ α} (hi : TJ (fun l : List β => (l.map f, c)) S (di ρ st) ti) (hx : ∀ fs s, PF fs → X fs s ρ (S s)) (k : ∀ l s, TS N B R X (forL pop ws c g b (l.map f) (wipeE ρ ws) (S s)) (t l s)) : TS N B R X (dFor pop ws di g b ρ st) (ti.bindS t) := ts_C (r := di ρ st) hi hx k
theorem ts_iterV {pop : Bool} {ws : List Nat} {di : DenI} {g : DenG} {b : DenS} {xs : List D} {c : Chk} {t : TSt Z σ τ α} (hi : di ρ st = .ok (xs, c) st) (k : TS N B R X (forL pop ws c g b xs (wipeE ρ ws) st) t) : TS N B R X (dFor pop ws di g b ρ st) t := ts_V (r := di ρ st) hi k
theorem tp0 : ∀ (_ _ : Unit) (L : DSto), popS st (st ++ L) = some st := fun _ _ _ => popS_app
theorem tpS {r : DSto} : ∀ (s s' : Src) (L : DSto), popS (SS s r) (SS s' r ++ L) = some (SS s' r) := fun s s' L => SS_pop
theorem pT0 {r : DSto} {s s' : Src} {L : DSto} : popS (SS s r) (SS s' r ++ L) = some (SS s' r) := SS_pop
theorem pT0' {r : DSto} {s s' : Src} : popS (SS s r) (SS s' r) = some (SS s' r) := SS_pop'
theorem pT1 {r : DSto} {o : DObj} {s s' : Src} {L : DSto} : popS (SS s r ++ [o]) (SS s' r ++ o :: L) = some (SS s' r ++ [o]) := by
  have := SS_pop (s := s) (s' := s') (r := r ++ [o]) (ν := L)
  rw [List.append_assoc] at this
  exact this
end
/-- the literal names -/
abbrev nmD (n : Name) : D := en n
end FV

set_option Elab.async false
set_option linter.all false
set_option maxRecDepth 100000
set_option maxHeartbeats 4000000
namespace FV
open PySem PySem.Spec PyProof.Rows L2 Enc
section
variable {Z σ τ α β γ δ κ : Type} {S : Z → DSto} {s : Z} {ρ : DEnv} {st st' : DSto} {n i : Nat} {N : NR Z σ} {B : NR Z τ} {R : RR Z α} {X : XR Z} {ι : α → δ}
theorem insL {x : D} {l : DSto} {p : Nat × List (Nat × D)} (h : insD x st = some p) : insD x (st ++ l) = some p := by
  unfold insD at h ⊢
  cases x with
  | ref n =>
    dsimp only at h ⊢
    cases q : st[n]? with
    | none => rw [q] at h; cases h
    | some o => rw [q] at h; rw [gB q]; exact h
  | _ => exact h
theorem okm {z : Str} (h : z.length ≤ 16) : decide (z.length ≤ 100000) = true := decide_eq_true (by omega)
theorem itemsD_sq [EncD α] {l : Sq α} : itemsD (en l) st = some (l.l.map en) := by
  obtain ⟨t, l⟩ := l
  cases t <;> rfl
theorem mkTupK {xs : List D} (h : Nat.ble xs.length 1000 = true) : mkTup xs st = .ok (.tup xs) st := mkTup_ok (Nat.le_trans (Nat.le_of_ble_eq_true h) (by rw [szl]; omega))
theorem mkLstK {xs : List D} (h : Nat.ble xs.length 1000 = true) : mkLstV xs st = .ok (.lst xs) st := mkLstV_ok (Nat.le_trans (Nat.le_of_ble_eq_true h) (by rw [szl]; omega))
theorem c_mkV {c : Nat} {G : FnD} {es : DenA} {xs : List D} {ι : α → D} {t : RS Z α} (h : es ρ st = .ok xs st) (k : TJ ι S (mkObjV c G xs st) t) : TJ ι S (dMakeV c G es ρ st) t := by
  rw [dMakeV_ap, h]; exact k
theorem c_slL [Enc β] {d : Den} {lo hi : Option Den} {l h : Option Int} {f : β → D} {td : RS Z (List β)} (hd : TJ (fun l : List β => D.lst (l.map f)) S (d ρ st) td) (hl : ∀ s, dPart lo ρ (S s) = .ok l (S s)) (hh : ∀ s, dPart hi ρ (S s) = .ok h (S s)) : TJ (fun l : List β => D.lst (l.map f)) S (dSl d lo hi ρ st) (td.bind fun x s => .ok (cutT x l h) s) := by
  cases td with
  | bad => trivial
  | exc c fs s => refine ⟨?_, hd.2⟩; rw [dSl_ap, show d ρ st = _ from hd.1]; rfl
  | ok x s =>
    show dSl d lo hi ρ st = .ok (.lst ((cutT x l h).map f)) (S s)
    rw [dSl_ap, show d ρ st = _ from hd, DRes.bind_ok, hl, DRes.bind_ok, hh, DRes.bind_ok, slO_lst, cut_map]; rfl
theorem ci_lst [EncD β] {d : Den} {td : RS Z (List β)} (hd : TJ (en : List β → D) S (d ρ st) td) : TJ (fun l : List β => (l.map (en : β → D), ([] : Chk))) S (dISeq d ρ st) td := by
  cases td with
  | bad => trivial
  | exc c fs s => refine ⟨?_, hd.2⟩; rw [dISeq_ap, show d ρ st = _ from hd.1]; rfl
  | ok x s => show dISeq d ρ st = _; rw [dISeq_ap, show d ρ st = _ from hd]; rfl
theorem ci_tup [EncD β] {d : Den} {td : RS Z (Vt β)} (hd : TJ (en : Vt β → D) S (d ρ st) td) : TJ (fun l : List β => (l.map (en : β → D), ([] : Chk))) S (dISeq d ρ st) (td.bind fun x s => .ok x.l s) := by
  cases td with
  | bad => trivial
  | exc c fs s => refine ⟨?_, hd.2⟩; rw [dISeq_ap, show d ρ st = _ from hd.1]; rfl
  | ok x s => show dISeq d ρ st = _; rw [dISeq_ap, show d ρ st = _ from hd]; rfl
theorem c_lcI {f : β → D} {c : Chk} {v : Bool} {di : DenI} {vs : List Nat} {g : DenG} {step : DEnv → List D → DSto → Option (List D × DSto)} {ι : α → D} {ti : RS Z (List β)} {t : List β → Z → RS Z α} (h : TJ (fun l : List β => (l.map f, c)) S (di ρ st) ti) (k : ∀ l s, TJ ι S (dLcB v (fun _ st' => .ok (l.map f, c) st') vs g step ρ (S s)) (t l s)) : TJ ι S (dLcB v di vs g step ρ st) (ti.bind t) := by
  cases ti with
  | bad => trivial
  | exc c fs s => refine ⟨?_, h.2⟩; rw [dLcB_ap, show di ρ st = _ from h.1]; rfl
  | ok l s =>
    have := k l s
    have e : dLcB v di vs g step ρ st = dLcB v (fun _ st' => .ok (l.map f, c) st') vs g step ρ (S s) := by
      rw [dLcB_ap, dLcB_ap, show di ρ st = _ from h] <;> rfl
    rw [e]; exact this
/-- two clauses, by values -/
theorem c_lcF {f : α → D} {h : β → D} {f1 : γ → D} {di di1 : DenI} {c c1 : Chk} {vs vs1 : List Nat} {g g1 : DenG} {t1 : DenT} {e : Den} {E1 : α → DEnv} {E2 : α → γ → DEnv} {xs : List α} {ys : α → List γ} {p : α → γ → Bool} {k : α → γ → β} (hi : di ρ st = .ok (xs.map f, c) (S s)) (hc : chkB c (S s) = true) (hg : ∀ x, g (f x) (wipeE ρ vs) (S s) = some (E1 x, S s))
    (hi1 : ∀ x, di1 (E1 x) (S s) = .ok ((ys x).map f1, c1) (S s)) (hc1 : ∀ x : α, chkB c1 (S s) = true) (hg1 : ∀ x y, g1 (f1 y) (wipeE (E1 x) vs1) (S s) = some (E2 x y, S s)) (ht : ∀ x y, t1 (E2 x y) (S s) = .ok (p x y) (S s)) (he : ∀ x y, e (E2 x y) (S s) = .ok (h (k x y)) (S s)) :
    TJ (fun l : List β => D.lst (l.map h)) S (dLcB true di vs g (stepC dYes di1 vs1 g1 (stepE t1 e)) ρ st) (lcF xs ys p k s) := by
  refine tj_grd fun hl => ?_
  have inner : ∀ x (l : List γ) (acc : List β), acc.length + ((l.filter (p x)).map (k x)).length < lim → compL c1 vs1 g1 (stepE t1 e) (E1 x) (l.map f1) (acc.map h) (S s) = some ((acc ++ (l.filter (p x)).map (k x)).map h, S s) := by
    intro x l
    induction l with
    | nil => intro acc _; rw [List.map_nil, compL_nil, if_pos (hc1 x)]; simp
    | cons y l ih =>
      intro acc hlen
      rw [List.map_cons, compL_cons, if_pos (hc1 x), hg1]
      dsimp only
      rw [stepE_ap, ht]
      cases q : p x y with
      | false =>
        dsimp only
        rw [List.filter_cons_of_neg (by simp [q])] at hlen ⊢
        exact ih acc hlen
      | true =>
        dsimp only
        rw [he]
        dsimp only
        rw [List.filter_cons_of_pos q, List.map_cons] at hlen ⊢
        simp only [List.length_cons] at hlen
        have sz : (acc.map h).length < sizeLine := by rw [List.length_map]; have := lim_sz; omega
        rw [if_pos sz]
        dsimp only
        have := ih (acc ++ [k x y]) (by simp only [List.length_append, List.length_cons, List.length_nil]; omega)
        rw [List.map_append] at this
        rw [show (acc.map h ++ [h (k x y)]) = acc.map h ++ [k x y].map h from rfl, this]
        simp
  have outer : ∀ (l : List α) (acc : List β), acc.length + (l.flatMap fun x => ((ys x).filter (p x)).map (k x)).length < lim → compL c vs g (stepC dYes di1 vs1 g1 (stepE t1 e)) ρ (l.map f) (acc.map h) (S s) = some ((acc ++ l.flatMap fun x => ((ys x).filter (p x)).map (k x)).map h, S s) := by
    intro l
    induction l with
    | nil => intro acc _; rw [List.map_nil, compL_nil, if_pos hc]; simp
    | cons x l ih =>
      intro acc hlen
      rw [List.flatMap_cons, List.length_append] at hlen
      rw [List.map_cons, compL_cons, if_pos hc, hg]
      dsimp only
      rw [stepC_ap, dYes_ap]
      dsimp only
      rw [hi1]
      dsimp only
      rw [inner x (ys x) acc (by omega)]
      dsimp only
      rw [ih _ (by rw [List.length_append]; omega), List.flatMap_cons, List.append_assoc]
  show dLcB true di vs g _ ρ st = _
  rw [dLcB_ap, hi, DRes.bind_ok]
  dsimp only
  have := outer xs [] (by simpa using hl)
  rw [List.map_nil] at this
  rw [this]; rfl
/-- {k(x): v(x) for x in xs} -/
def dcT [DecidableEq κ] (xs : List α) (ky : α → κ) (vl : α → β) (s : Z) : RS Z (Dc κ β) := if xs.length < lim then .ok ⟨xs.foldl (fun d x => put d (ky x) (vl x)) []⟩ s else .bad
theorem fold_put_len [DecidableEq κ] (ky : α → κ) (vl : α → β) : ∀ (l : List α) (d : List (κ × β)), (l.foldl (fun d x => put d (ky x) (vl x)) d).length ≤ d.length + l.length
  | [], d => by simp
  | x :: l, d => by
    have h1 := fold_put_len ky vl l (put d (ky x) (vl x))
    have h2 := put_len d (ky x) (vl x)
    simp only [List.foldl_cons, List.length_cons]
    omega
theorem c_dc [EncK κ] [Enc β] [DecidableEq κ] {f : α → D} {di : DenI} {c : Chk} {vs : List Nat} {g : DenG} {ek ev : Den} {E1 : α → DEnv} {xs : List α} {ky : α → κ} {vl : α → β} (hi : di ρ st = .ok (xs.map f, c) (S s)) (hc : chkB c (S s) = true) (hg : ∀ x, g (f x) (wipeE ρ vs) (S s) = some (E1 x, S s))
    (hk : ∀ x, ek (E1 x) (S s) = .ok (en (ky x)) (S s)) (hv : ∀ x, ev (E1 x) (S s) = .ok (en (vl x)) (S s)) (ht : EncK.t κ = false := by rfl) : TJ (en : Dc κ β → D) S (dDcB di vs g (stepD dYes ek ev) ρ st) (dcT xs ky vl s) := by
  refine tj_grd fun hl => ?_
  show dDcB di vs g _ ρ st = .ok (.dct (EncK.t κ) _) (S s)
  rw [dDcB_ap, hi, DRes.bind_ok]
  dsimp only
  have := compA_fold (ch := c) (vs := vs) (g := g) (step := stepD dYes ek ev) (ρ := ρ) (st := S s) f (fun p : List α => (p.foldl (fun d x => put d (ky x) (vl x)) []).map fun q => ((en q.1, en q.2) : D × D)) hc xs [] (by
    intro p x q hpq
    refine ⟨_, hg x, ?_⟩
    rw [stepD_ap, dYes_ap]
    dsimp only
    rw [hk]
    dsimp only
    rw [hv]
    dsimp only
    have h1 := fold_put_len ky vl p ([] : List (κ × β))
    have h2 := congrArg List.length hpq
    have sz : ((p.foldl (fun d x => put d (ky x) (vl x)) []).map fun q => ((en q.1, en q.2) : D × D)).length < sizeLine := by
      rw [List.length_map]
      have := lim_sz
      simp at h1 h2
      omega
    rw [if_pos sz, ← ht, dput_en, Option.map_some, List.foldl_append]; rfl)
  rw [List.nil_append] at this
  rw [show ((([] : List α).foldl (fun d x => put d (ky x) (vl x)) []).map fun q => ((en q.1, en q.2) : D × D)) = [] from rfl] at this
  rw [this, ht]
theorem tk_star {a : Den} {r : DenA} {K : List D → DSto → DRes δ} {x : D} {ys : List D} {t : RS Z α} (ha : a ρ st = .ok x st) (hi : itemsD x st = some ys) (k : TJ ι S ((r ρ st).bind fun xs st => K (ys ++ xs) st) t) : TJ ι S ((dStar a r ρ st).bind K) t := by
  have e : (dStar a r ρ st).bind K = (r ρ st).bind fun xs st => K (ys ++ xs) st := by
    rw [dStar_ap, ha, DRes.bind_ok]
    try dsimp only
    rw [hi]
    try dsimp only
    cases r ρ st <;> rfl
  rw [e]; exact k
theorem mk_tupS [EncD α] {xs : List D} {l : List α} (he : xs = l.map en) : TJ (en : Vt α → D) S (mkTup xs (S s)) (vtT l s) := tj_grd fun q => by
  subst he
  exact mkTup_ok (by rw [List.length_map]; exact Nat.le_trans q lim_sz)
theorem mk_lstS [EncD α] {xs : List D} {l : List α} (he : xs = l.map en) : TJ (en : List α → D) S (mkLstV xs (S s)) (lsT l s) := tj_grd fun q => by
  subst he
  exact mkLstV_ok (by rw [List.length_map]; exact Nat.le_trans q lim_sz)
def keysT (l : Dc κ α) (s : Z) : RS Z (List κ) := if l.l.length < lim then .ok (l.l.map (·.1)) s else .bad
theorem c_keys [Enc α] {l : Dc Name α} : TJ (en : List Name → D) S (ofO (listDO [en l] (S s))) (keysT l s) := tj_grd fun h => by rw [b_listD h]; rfl
def itemsT (l : Dc κ α) : List (T2 κ α) := l.l.map fun p => ⟨p.1, p.2⟩
/-- a pair of a dict -/
instance (priority := low) [Enc κ] [Enc α] : Enc (T2 κ α) := ⟨fun x => .tup [en x.a, en x.b]⟩
theorem i_itemsT [Enc α] {d : Den} {l : Dc Name α} (h : d ρ st = .ok (en l) st) : dIItems d ρ st = .ok ((itemsT l).map fun x => .tup [en x.a, en x.b], []) st := by
  rw [i_items h]; unfold itemsT; rw [List.map_map]; rfl
/-- where no error may leave -/
theorem ts_Cn {r : DRes δ} {ι' : β → δ} {f : δ → DSto → DStm} {ta : RS Z β} {t : β → Z → TSt Z σ τ α} (h : TJ ι' S r ta) (k : ∀ a s, TS N B R X (f (ι' a) (S s)) (t a s)) : TS N B R X (r.toS ρ f) (ta.okOnly.bindS t) := by
  cases ta with
  | ok a s => rw [show r = _ from h]; exact k a s
  | exc c fs s => trivial
  | bad => trivial
theorem ts_retN2 {d : Den} {ι' : β → D} {ta : RS Z β} {f : β → α} (h : TJ ι' S (d ρ st) ta) (hr : ∀ a s, R (f a) s (ι' a) (S s)) : TS N B R X (dRet d ρ st) (ta.okOnly.bindS fun a s => .rt (f a) s) := ts_Cn (r := d ρ st) h fun a s => ⟨_, _, rfl, hr a s⟩
end
end FV

set_option Elab.async false
set_option linter.all false
set_option maxRecDepth 100000
set_option maxHeartbeats 4000000
namespace FV
open PySem PySem.Spec PyProof.Rows L2 Enc
/-! ### the source, typed -/
open Classical in
@[irreducible] noncomputable def T_draw (m : Int) (s : Src) : RS Src Int := if h : 0 < m ∧ m < 1073741824 then .ok ((draw_okA s h.1 h.2).choose : Nat) (draw_okA s h.1 h.2).choose_spec.choose else .bad
theorem ok_draw {m : Int} {s : Src} {r : DSto} : TJ en (fun s => SS s r) (G_law_draw [.ref 1, en m] (SS s r)) (T_draw m s) := by
  unfold T_draw
  split
  · rename_i h
    exact (draw_okA s h.1 h.2).choose_spec.choose_spec.1 r
  · trivial
/-- a draw: any number below m -/
theorem draw_any {m : Int} (s : Src) (h0 : 0 < m) (h1 : m < 1073741824) : ∃ (v : Nat) (s' : Src), T_draw m s = .ok (v : Int) s' ∧ (v : Int) < m := by
  unfold T_draw
  rw [dif_pos ⟨h0, h1⟩]
  exact ⟨_, _, rfl, (draw_okA s h0 h1).choose_spec.choose_spec.2⟩
open Classical in
@[irreducible] noncomputable def T_names (m : Int) (s : Src) : RS Src (List Name) := if h : 0 ≤ m ∧ m ≤ 26 then .ok (names_okA s (count := m.toNat) (by omega)).choose (names_okA s (count := m.toNat) (by omega)).choose_spec.choose else .bad
theorem ok_names {m : Int} {s : Src} {r : DSto} : TJ en (fun s => SS s r) (G_law_names [.ref 1, en m] (SS s r)) (T_names m s) := by
  unfold T_names
  split
  · rename_i h
    have := (names_okA s (count := m.toNat) (by omega)).choose_spec.choose_spec.1 r
    have e : ((m.toNat : Nat) : Int) = m := by omega
    refine Eq.trans ?_ this
    rw [e]; rfl
  · trivial
/-- names: so many, each once, of 1 to 9 signs -/
theorem names_any {m : Nat} (s : Src) (h : m ≤ 26) : ∃ (l : List Name) (s' : Src), T_names (m : Int) s = .ok l s' ∧ l.length = m ∧ l.Nodup ∧ ∀ x ∈ l, 1 ≤ x.s.length ∧ x.s.length ≤ 9 := by
  unfold T_names
  rw [dif_pos ⟨by omega, by omega⟩]
  exact ⟨_, _, rfl, (names_okA s (count := (m : Int).toNat) (by omega)).choose_spec.choose_spec.2⟩
section
variable {Z σ τ α β γ δ κ : Type} {S : Z → DSto} {s : Z} {ρ : DEnv} {st st' : DSto} {n i : Nat} {N : NR Z σ} {B : NR Z τ} {R : RR Z α} {X : XR Z} {ι : α → δ}
theorem popS_nil {st : DSto} : popS [] st = some [] := by unfold popS; rw [popZ]
abbrev RL : RR Src Bool := fun a _ d _ => d = .bl a
/-- the law: its source, then its own statements -/
theorem tl_law {ns : List Int} (hl : ns.length ≤ 63) {N' : Nat} {b : DenS} {E : DEnv} {t : Src → TSt Src Unit Unit Bool} (hE : [some (.scr ns)] ++ List.replicate (N' - 1) none = E)
    (h : ∀ s, TS NF (NF : NR Src Unit) RL (fun _ _ _ _ => True) (b (E.set 1 (some (.ref 1))) (SS s [])) (t s)) (ht : ∀ s, ∃ s', (t s).fin = .ok true s') : ∃ st, bodyP 1 N' (dSeq (dAsg 1 (dCall G_law_source (dCons (dVar 0) dNil))) b) [.scr ns] [] = .ok (.bl true) st := by
  obtain ⟨s, e⟩ := source_ok ns hl
  have h := h s
  obtain ⟨s', ht⟩ := ht s
  refine ⟨[], ?_⟩
  rw [bodyP_ap, bodyF_ap (n := 1) rfl]
  have e1 : dSeq (dAsg 1 (dCall G_law_source (dCons (dVar 0) dNil))) b ([D.scr ns].map some ++ List.replicate (N' - [D.scr ns].length) none) [] = b (E.set 1 (some (.ref 1))) (SS s []) := by
    show (dSeq (dAsg 1 (dCall G_law_source (dCons (dVar 0) dNil))) b ([some (.scr ns)] ++ List.replicate (N' - 1) none) []) = _
    rw [hE]
    have e2 : dVar 0 E [] = .ok (.scr ns) [] := by rw [← hE]; rfl
    show DStm.andThen ((dCall G_law_source (dCons (dVar 0) dNil) E []).toS E fun x st => .nx (E.set 1 (some x)) st) b = _
    have e3 : dCall G_law_source (dCons (dVar 0) dNil) E [] = .ok (.ref 1) (SS s []) := by
      rw [dCall_ap, dCons_ap, e2]
      show DRes.bind (.ok [D.scr ns] []) G_law_source = _
      exact e
    rw [e3]; rfl
  rw [e1]
  revert h ht
  generalize t s = t
  intro h ht
  cases t with
  | rt a s =>
    obtain ⟨d, st', e, rfl⟩ := h
    cases ht
    rw [e]
    exact popR_ok rfl popS_nil
  | nx v s => cases ht
  | bk v s => cases ht
  | ct v s => cases ht
  | exc c fs s => cases ht
  | bad => cases ht
end
end FV

set_option Elab.async false
set_option linter.all false
set_option maxRecDepth 100000
set_option maxHeartbeats 4000000
namespace FV
open PySem PySem.Spec PyProof.Rows L2 Enc
section
variable {Z σ τ α β γ δ κ : Type} {S : Z → DSto} {s : Z} {ρ : DEnv} {st st' : DSto} {n i c : Nat} {N : NR Z σ} {B : NR Z τ} {R : RR Z α} {X : XR Z} {F : α → List (Nat × D)}
/-- r makes an object of the class c at n, its fields F -/
def MJ (c : Nat) (F : α → List (Nat × D)) (S : Z → DSto) (n : Nat) (r : DRes D) (t : RS Z α) : Prop := match t with
  | .ok v s => r = .ok (.ref n) (S s ++ [.ins c (F v)])
  | .exc c' fs s => (∃ L, r = .exc c' fs (S s ++ L)) ∧ PF fs
  | .bad => True
theorem mj_at {r : DRes D} {t : RS Unit α} (h : MJ c F (fun _ : Unit => S s) n r t) : MJ c F S n r (t.at s) := by
  cases t with
  | ok a u => exact h
  | exc c fs u => exact h
  | bad => trivial
theorem mk_V {d : Den} {rest : DenA} {K : List D → DSto → DRes D} {x : D} {t : RS Z α} (h : d ρ st = .ok x st) (k : MJ c F S n ((rest ρ st).bind fun xs st => K (x :: xs) st) t) : MJ c F S n ((dCons d rest ρ st).bind K) t := by
  have e : (dCons d rest ρ st).bind K = (rest ρ st).bind fun xs st => K (x :: xs) st := by
    rw [dCons_ap, h, DRes.bind_ok]
    cases rest ρ st <;> rfl
  rw [e]; exact k
theorem mk_C {d : Den} {rest : DenA} {K : List D → DSto → DRes D} {ι' : β → D} {ta : RS Z β} {t : β → Z → RS Z α} (h : TJ ι' S (d ρ st) ta) (k : ∀ a s, MJ c F S n ((rest ρ (S s)).bind fun xs st => K (ι' a :: xs) st) (t a s)) : MJ c F S n ((dCons d rest ρ st).bind K) (ta.bind t) := by
  cases ta with
  | bad => trivial
  | exc c' fs s =>
    refine ⟨⟨[], ?_⟩, h.2⟩
    rw [dCons_ap, show d ρ st = _ from h.1, List.append_nil]; rfl
  | ok a s =>
    have e : (dCons d rest ρ st).bind K = (rest ρ (S s)).bind fun xs st => K (ι' a :: xs) st := by
      rw [dCons_ap, show d ρ st = _ from h, DRes.bind_ok]
      cases rest ρ (S s) <;> rfl
    rw [e]; exact k a s
theorem mk_nil {K : List D → DSto → DRes D} {t : RS Z α} (k : MJ c F S n (K [] st) t) : MJ c F S n ((dNil ρ st).bind K) t := k
/-- x = C(..), an object that may change -/
theorem ts_newO {G : FnD} {es : DenA} {S' : β → Z → DSto} {F : β → List (Nat × D)} {ta : RS Z β} {b : DenS} {t : β → Z → TSt Z σ τ α} (h : MJ c F S n ((es ρ st).bind fun ds st => mkObj c G ds st) ta) (hx : ∀ fs s L, PF fs → X fs s ρ (S s ++ L)) (hS : ∀ v s, S s ++ [.ins c (F v)] = S' v s) (k : ∀ v s, TS N B R X (b (ρ.set i (some (.ref n))) (S' v s)) (t v s)) : TS N B R X (dSeq (dAsg i (dMake c G es)) b ρ st) (ta.bindS t) := by
  show TS N B R X (((dMake c G es ρ st).toS ρ fun x st => .nx (ρ.set i (some x)) st).andThen b) _
  rw [dMake_ap]
  cases ta with
  | bad => trivial
  | ok v s =>
    rw [show (es ρ st).bind _ = _ from h, hS]
    exact k v s
  | exc c' fs s =>
    obtain ⟨⟨L, e⟩, p⟩ := h
    rw [e]; exact ⟨_, _, rfl, hx _ _ _ p⟩
/-- the new object's fields told by value -/
theorem pop_ins {b L : DSto} {fs gs : List (Nat × D)} (hne : DObj.ins c fs ≠ .ins c []) (h : rsf (b ++ [DObj.ins c []]).length (fzK (b ++ [DObj.ins c []]).length (b ++ .ins c fs :: L)) fs = some gs) : popS (b ++ [.ins c []]) (b ++ .ins c fs :: L) = some (b ++ [.ins c gs]) := by
  unfold popS
  have : ∀ (lo : Nat) (st' : DSto) (b : DSto), rsf lo (fzK lo st') fs = some gs → popZ lo st' (b ++ [.ins c []]) (b ++ .ins c fs :: L) = some (b ++ [.ins c gs]) := by
    intro lo st' b hh
    induction b with
    | nil =>
      show popZ lo st' (.ins c [] :: []) (.ins c fs :: L) = _
      unfold popZ
      rw [if_neg hne]
      have e : fzO lo st' (.ins c fs) = some (.ins c gs) := by
        show (rsf lo (fzK lo st') fs).map (DObj.ins c) = _
        rw [hh]; rfl
      rw [e]
      show (popZ lo st' [] L).map _ = _
      unfold popZ; rfl
    | cons o b ih =>
      show popZ lo st' (o :: (b ++ [.ins c []])) (o :: (b ++ .ins c fs :: L)) = _
      unfold popZ
      rw [if_pos rfl, ih]; rfl
  exact this _ _ b h
section
variable {lo : Nat} {fs gs : List (Nat × D)} {k : Nat}
theorem rsf_nil' : rsf lo (fzK lo st) [] = some [] := rfl
theorem rsf_p {d : D} (p : Pure d) (h : rsf lo (fzK lo st) fs = some gs) : rsf lo (fzK lo st) ((k, d) :: fs) = some ((k, d) :: gs) := by
  show (rs lo (fzK lo st) d).bind (fun b => (rsf lo (fzK lo st) fs).map fun c => (k, b) :: c) = _
  rw [p, h]; rfl
theorem rsf_r {d e : D} (p : fzD lo st d = some e) (h : rsf lo (fzK lo st) fs = some gs) : rsf lo (fzK lo st) ((k, d) :: fs) = some ((k, e) :: gs) := by
  show (fzD lo st d).bind (fun b => (rsf lo (fzK lo st) fs).map fun c => (k, b) :: c) = _
  rw [p, h]; rfl
end
theorem tf_mkR {n' N' : Nat} {b : DenS} {ds : List D} {F : σ → List (Nat × D)} {t : TSt Z σ τ Unit} (hn : ds.length + 1 = n') (hlen : st.length = n)
    (h : TS (fun v s _ st' => popS (st ++ [.ins c []]) st' = some (S s ++ [.ins c (F v)])) (NF : NR Z τ) (fun _ _ _ _ => False) (fun fs s _ st' => (∃ L, popS (st ++ [.ins c []]) st' = some (S s ++ L)) ∧ PF fs) (b ((.ref n :: ds).map some ++ List.replicate (N' - n') none) (st ++ [.ins c []])) t) : MJ c F S n (mkObj c (bodyP n' N' b) ds st) t.mk := by
  unfold mkObj
  rw [hlen, bodyP_ap]
  have hn' : (D.ref n :: ds).length = n' := by simpa using hn
  rw [bodyF_ap hn', hn']
  cases t with
  | bk v s => trivial
  | ct v s => trivial
  | rt a s => trivial
  | bad => trivial
  | nx v s =>
    obtain ⟨ρ', st', e, h⟩ := h
    rw [e]
    show (popR (st ++ [.ins c []]) (.ok .non st')).bind _ = _
    rw [popR_ok rfl h]; rfl
  | exc c' fs s =>
    obtain ⟨ρ', st', e, ⟨L, h⟩, p⟩ := h
    rw [e]
    refine ⟨⟨L, ?_⟩, p⟩
    have : popR (st ++ [.ins c []]) (.exc c' fs st') = .exc c' fs (S s ++ L) := by
      unfold popR
      simp only [show fzF (st ++ [DObj.ins c []]).length st' fs = some fs from p _ _, h]
    show (popR (st ++ [.ins c []]) (.exc c' fs st')).bind _ = _
    rw [this]; rfl
/-- self.f = {}, filled later -/
theorem ts_setFD {f m : Nat} {fs : List (Nat × D)} {o : Den} {tt : Bool} {st1 : DSto} {b : DenS} {t : TSt Z σ τ α} (hm : st.length = m) (hs1 : st ++ [.dct tt []] = st1) (ho : o ρ st1 = .ok (.ref n) st1) (hn : st1[n]? = some (.ins c fs)) (hl : Nat.ble fs.length 999 = true) (hs : st1.set n (.ins c (putN f (.ref m) fs)) = st') (k : TS N B R X (b ρ st') t) : TS N B R X (dSeq (dSetF c f o (dDct tt)) b ρ st) t := by
  subst hm hs1
  show TS N B R X (((dDct tt ρ st).toS ρ fun y st => (o ρ st).toS ρ fun x st => match setFld c f x y st with | some st => .nx ρ st | none => .bad).andThen b) t
  have e : setFld c f (.ref n) (.ref st.length) (st ++ [.dct tt []]) = some st' := by
    unfold setFld
    dsimp only
    rw [hn]
    dsimp only
    rw [if_pos ⟨rfl, Nat.lt_succ_of_le (Nat.le_of_ble_eq_true hl)⟩, hs]
  show TS N B R X (((o ρ (st ++ [.dct tt []])).toS ρ fun x st1 => match setFld c f x (.ref st.length) st1 with | some st => .nx ρ st | none => .bad).andThen b) t
  rw [ho]
  show TS N B R X (DStm.andThen (match setFld c f (.ref n) (.ref st.length) (st ++ [.dct tt []]) with | some st => .nx ρ st | none => .bad) b) t
  rw [e]; exact k
theorem c_ixE [EncD α] {l : List α} {i : Int} : TJ (en : α → D) S (ofO (ixO (en l) (en i) (S s))) (ixT l i s) := c_ix
theorem c_ixTE [EncD α] {l : Vt α} {i : Int} : TJ (en : α → D) S (ofO (ixO (en l) (en i) (S s))) (ixT l.l i s) := c_ixT
theorem c_ixRE [EncD α] {l : List α} {i : Int} {n : Nat} (h : (S s)[n]? = some (.lst (l.map en))) : TJ (en : α → D) S (ofO (ixO (.ref n) (en i) (S s))) (ixT l i s) := c_ixR h
theorem b_lenE [EncD α] {l : List α} : lenO [en l] st = some (en (l.length : Int), st) := b_len
theorem b_lenTE [EncD α] {l : Vt α} : lenO [en l] st = some (en (l.l.length : Int), st) := b_lenT
theorem tj_app {G : FnD} {ds : List D} {r l : DSto} {ι : α → D} {s : Src} {t : RS Src α} (h : TJ ι (fun s => SS s (r ++ l)) (G ds (SS s (r ++ l))) t) : TJ ι (fun s => SS s r ++ l) (G ds (SS s r ++ l)) t := h
theorem pT2 {r : DSto} {o p : DObj} {s s' : Src} {L : DSto} : popS (SS s r ++ [o, p]) (SS s' r ++ o :: p :: L) = some (SS s' r ++ [o, p]) := by
  have := SS_pop (s := s) (s' := s') (r := r ++ [o, p]) (ν := L)
  rw [List.append_assoc] at this
  exact this
theorem pT3 {r : DSto} {o p q : DObj} {s s' : Src} {L : DSto} : popS (SS s r ++ [o, p, q]) (SS s' r ++ o :: p :: q :: L) = some (SS s' r ++ [o, p, q]) := by
  have := SS_pop (s := s) (s' := s') (r := r ++ [o, p, q]) (ν := L)
  rw [List.append_assoc] at this
  exact this
end
end FV

set_option Elab.async false
set_option linter.all false
set_option maxRecDepth 100000
set_option maxHeartbeats 4000000
namespace FV
open PySem PySem.Spec PyProof.Rows L2 Enc
/-- a statement of a walk -/
inductive Stm where
  | call (c : Int) (w : Name)
  | set (p : Int) (f : Name) (r : Sq (T2 Int Name))
  deriving DecidableEq
def nCall : Name := ⟨PySem.Str.ofString "call", by decide +kernel, by decide +kernel⟩
def nSet : Name := ⟨PySem.Str.ofString "set", by decide +kernel, by decide +kernel⟩
def Stm.d : Stm → D
  | .call c w => .tup [en nCall, en c, en w]
  | .set p f r => .tup [en nSet, en p, en f, en r]
theorem Stm.ne : nCall ≠ nSet := by decide +kernel
instance : EncD Stm where
  en := Stm.d
  dep := 3
  gd s := by
    cases s with
    | call c w => exact gd_tup (n := 2) (gd_cons ((EncD.gd nCall).mono (by decide)) (gd_cons ((EncD.gd c).mono (by decide)) (gd_cons ((EncD.gd w).mono (by decide)) gd_nil)))
    | set p f r => exact gd_tup (n := 2) (gd_cons ((EncD.gd nSet).mono (by decide)) (gd_cons ((EncD.gd p).mono (by decide)) (gd_cons ((EncD.gd f).mono (by decide)) (gd_cons ((EncD.gd r).mono (by decide)) gd_nil))))
  deq a b := by
    cases a <;> cases b <;> simp [Stm.d, deqD, deqDs, EncD.deq]
  pu s := by
    cases s with
    | call c w => exact pure_tup (pures_cons (EncD.pu _) (pures_cons (EncD.pu _) (pures_cons (EncD.pu _) pures_nil)))
    | set p f r => exact pure_tup (pures_cons (EncD.pu _) (pures_cons (EncD.pu _) (pures_cons (EncD.pu _) (pures_cons (EncD.pu _) pures_nil))))
  nx s := by
    cases s <;> simp [Stm.d, nox, noxs, EncD.nx]
  inj a b h := by
    cases a <;> cases b <;> simp [Stm.d] at h
    · obtain ⟨h1, h2⟩ := h; rw [EncD.inj _ _ h1, EncD.inj _ _ h2]
    · obtain ⟨h1, h2, h3⟩ := h; rw [EncD.inj _ _ h1, EncD.inj _ _ h2, EncD.inj _ _ h3]
end FV

set_option Elab.async false
set_option linter.all false
set_option maxRecDepth 100000
set_option maxHeartbeats 4000000
namespace FV
open PySem PySem.Spec PyProof.Rows L2 Enc
/-! ## plain facts on typed outcomes -/
section
variable {Z σ τ α β γ κ : Type} {s : Z}
@[simp] theorem forT_nil {body : β → σ → Z → TSt Z σ σ α} {v : σ} : (forT body [] v s : TSt Z σ τ α) = .nx v s := id rfl
theorem forT_cons {body : β → σ → Z → TSt Z σ σ α} {v : σ} {x : β} {xs : List β} : (forT body (x :: xs) v s : TSt Z σ τ α) = match body x v s with
    | .nx v s => forT body xs v s
    | .ct v s => forT body xs v s
    | .bk v s => .nx v s
    | .rt a s => .rt a s
    | .exc c fs s => .exc c fs s
    | .bad => .bad := id rfl
theorem whileT_succ {c : σ → Z → RS Z Bool} {b : σ → Z → TSt Z σ σ α} {n : Nat} {v : σ} : (whileT c b (n + 1) v s : TSt Z σ τ α) = match c v s with
    | .ok true s => (match b v s with
      | .nx v s => whileT c b n v s
      | .ct v s => whileT c b n v s
      | .bk v s => .nx v s
      | .rt a s => .rt a s
      | .exc c fs s => .exc c fs s
      | .bad => .bad)
    | .ok false s => .nx v s
    | .exc c fs s => .exc c fs s
    | .bad => .bad := by rw [whileT] <;> rfl
/-- a loop that looks for an item -/
theorem forT_rt {p : β → Bool} {e : β → α} {v : σ} : ∀ xs : List β, (forT (fun x v s => if p x = true then TSt.rt (e x) s else .nx v s) xs v s : TSt Z σ τ α) = match xs.find? p with
    | some x => .rt (e x) s
    | none => .nx v s
  | [] => rfl
  | x :: xs => by
    rw [forT_cons]
    cases q : p x with
    | true => simp [q]
    | false =>
      rw [List.find?_cons_of_neg (by simp [q])]
      simp only [Bool.false_eq_true, if_false]
      exact forT_rt xs
theorem forT_exc {p : β → Bool} {c : Nat} {fs : β → List (Nat × D)} {v : σ} : ∀ xs : List β, (forT (fun x v s => if p x = true then TSt.exc c (fs x) s else .nx v s) xs v s : TSt Z σ τ α) = match xs.find? p with
    | some x => .exc c (fs x) s
    | none => .nx v s
  | [] => rfl
  | x :: xs => by
    rw [forT_cons]
    cases q : p x with
    | true => simp [q]
    | false =>
      rw [List.find?_cons_of_neg (by simp [q])]
      simp only [Bool.false_eq_true, if_false]
      exact forT_exc xs
/-- .. that goes through, a fact kept -/
theorem forT_ex {body : β → σ → Z → TSt Z σ σ α} (I : List β → σ → Prop) : ∀ (xs pre : List β) (v : σ) (s : Z), I pre v → (∀ p x q v s, pre ++ xs = p ++ x :: q → I p v → ∃ v' s', body x v s = .nx v' s' ∧ I (p ++ [x]) v') → ∃ v' s', (forT body xs v s : TSt Z σ τ α) = .nx v' s' ∧ I (pre ++ xs) v'
  | [], pre, v, s, h, _ => ⟨v, s, rfl, by simpa using h⟩
  | x :: xs, pre, v, s, h, k => by
    obtain ⟨v1, s1, e, h1⟩ := k pre x xs v s rfl h
    obtain ⟨v2, s2, e2, h2⟩ := forT_ex I xs (pre ++ [x]) v1 s1 h1 fun p y q v s hp => k p y q v s (by simpa using hp)
    refine ⟨v2, s2, ?_, by simpa using h2⟩
    rw [forT_cons, e]; exact e2
/-- .. whose steps are known -/
theorem forT_fold {body : β → σ → Z → TSt Z σ σ α} (f : σ → β → σ) (I : List β → σ → Prop) : ∀ (xs pre : List β) (v : σ), I pre v → (∀ p x q v, pre ++ xs = p ++ x :: q → I p v → body x v s = .nx (f v x) s ∧ I (p ++ [x]) (f v x)) → (forT body xs v s : TSt Z σ τ α) = .nx (xs.foldl f v) s ∧ I (pre ++ xs) (xs.foldl f v)
  | [], pre, v, h, _ => ⟨rfl, by simpa using h⟩
  | x :: xs, pre, v, h, k => by
    obtain ⟨e, h1⟩ := k pre x xs v rfl h
    obtain ⟨e2, h2⟩ := forT_fold f I xs (pre ++ [x]) (f v x) h1 fun p y q v hp => k p y q v (by simpa using hp)
    refine ⟨?_, by simpa using h2⟩
    rw [forT_cons, e]; exact e2
theorem forT_of {body : β → σ → Z → TSt Z σ σ α} {xs : List β} {v : σ} {r : TSt Z σ τ α} (hb : forT body xs v s = r) (I : List β → σ → Prop) (h0 : I [] v) (hs : ∀ p x q v s, xs = p ++ x :: q → I p v → ∃ v' s', body x v s = .nx v' s' ∧ I (p ++ [x]) v') : ∃ v' s', r = .nx v' s' ∧ I xs v' := by
  rw [← hb]
  exact forT_ex I xs [] v s h0 fun p x q v s h => hs p x q v s (by simpa using h)
theorem forT_foldOf {body : β → σ → Z → TSt Z σ σ α} {xs : List β} {v : σ} {r : TSt Z σ τ α} (hb : forT body xs v s = r) (f : σ → β → σ) (I : List β → σ → Prop) (h0 : I [] v) (hs : ∀ p x q v, xs = p ++ x :: q → I p v → body x v s = .nx (f v x) s ∧ I (p ++ [x]) (f v x)) : r = .nx (xs.foldl f v) s ∧ I xs (xs.foldl f v) := by
  rw [← hb]
  exact forT_fold f I xs [] v h0 fun p x q v h => hs p x q v (by simpa using h)
/-- how far a loop is -/
theorem pre_len {p q xs : List β} {x : β} (h : xs = p ++ x :: q) : p.length < xs.length := by subst h; simp
theorem pre_mem {p q xs : List β} {x : β} (h : xs = p ++ x :: q) : x ∈ xs := by subst h; simp
/-- a loop that does nothing -/
theorem forT_skip {body : β → σ → Z → TSt Z σ σ α} {v : σ} {xs : List β} (h : ∀ x ∈ xs, body x v s = .nx v s) : (forT body xs v s : TSt Z σ τ α) = .nx v s := by
  induction xs with
  | nil => rfl
  | cons x xs ih =>
    rw [forT_cons, h x List.mem_cons_self]
    exact ih fun y hy => h y (List.mem_cons_of_mem _ hy)
theorem lcM_ok {xs : List α} {k : α → β} (h : xs.length < lim) : lcM xs k s = .ok (xs.map k) s := if_pos h
theorem lcP_ok {xs : List α} {p : α → Bool} {k : α → β} (h : xs.length < lim) : lcP xs p k s = .ok ((xs.filter p).map k) s := if_pos h
theorem catT_ok {a b : List α} (h : a.length + b.length ≤ lim) : catT a b s = .ok (a ++ b) s := if_pos h
theorem vtT_ok {a : List α} (h : a.length ≤ lim) : vtT a s = .ok ⟨a⟩ s := if_pos h
theorem lsT_ok {a : List α} (h : a.length ≤ lim) : lsT a s = .ok a s := if_pos h
theorem keysT_ok {l : Dc κ α} (h : l.l.length < lim) : keysT l s = .ok (l.l.map (·.1)) s := if_pos h
theorem dcT_ok [DecidableEq κ] {xs : List α} {ky : α → κ} {vl : α → β} (h : xs.length < lim) : dcT xs ky vl s = .ok ⟨xs.foldl (fun d x => put d (ky x) (vl x)) []⟩ s := if_pos h
theorem rng1_ok {n : Nat} (h : n < 1000000000) : rng1 (n : Int) s = .ok ((List.range n).map fun k : Nat => (k : Int)) s := by
  unfold rng1
  rw [if_pos ⟨by omega, by omega⟩]
  unfold rngT
  simp
theorem lenSetT_ok {l : List Name} (h : l.length ≤ 1000) (hn : l.Nodup) : lenSetT l s = .ok (l.length : Int) s := by
  unfold lenSetT
  rw [if_pos h]
  have : ((l.map Name.s).reverse).Nodup := by
    rw [List.nodup_iff_pairwise_ne, List.pairwise_reverse, List.pairwise_map]
    exact hn.imp fun hne e => hne (Name.ext' e.symm)
  have := once_eq.mpr this
  simp only [List.length_reverse, List.length_map] at this
  rw [this]
theorem ixT_nat {l : List α} {n : Nat} {a : α} (h : l[n]? = some a) : ixT l (n : Int) s = .ok a s := by
  unfold ixT
  rw [FV.atI_nat, h]
theorem ixT_lt {l : List α} {n : Nat} (h : n < l.length) : ixT l (n : Int) s = .ok l[n] s := ixT_nat (List.getElem?_eq_getElem h)
theorem look_none_put [DecidableEq κ] {l : List (κ × α)} {k : κ} {v : α} (h : k ∉ l.map (·.1)) : put l k v = l ++ [(k, v)] := by
  unfold put look
  rw [if_neg]
  intro z
  rw [Option.isSome_map] at z
  obtain ⟨p, hp⟩ := Option.isSome_iff_exists.mp z
  have h1 := List.mem_of_find?_eq_some hp
  have h2 := List.find?_some hp
  simp only [decide_eq_true_eq] at h2
  exact h (h2 ▸ List.mem_map_of_mem (f := (·.1)) h1)
/-- {x: v(x) ..} over items that are told apart -/
theorem fold_put [DecidableEq κ] {ky : α → κ} {vl : α → β} : ∀ (xs : List α) (d : List (κ × β)), (d.map (·.1) ++ xs.map ky).Nodup → xs.foldl (fun d x => put d (ky x) (vl x)) d = d ++ xs.map fun x => (ky x, vl x)
  | [], d, _ => by simp
  | x :: xs, d, h => by
    have hx : ky x ∉ d.map (·.1) := fun z => by
      rw [List.map_cons, List.nodup_append] at h
      exact h.2.2 _ z _ List.mem_cons_self rfl
    rw [List.foldl_cons, look_none_put hx, fold_put xs]
    · simp
    · simpa using h
theorem look_map_mem [DecidableEq κ] {ky : α → κ} {vl : α → β} {x : α} : ∀ {xs : List α}, (xs.map ky).Nodup → x ∈ xs → look (xs.map fun x => (ky x, vl x)) (ky x) = some (vl x)
  | [], _, h => by cases h
  | y :: xs, nd, h => by
    unfold look
    rw [List.map_cons]
    rw [List.map_cons, List.nodup_cons] at nd
    by_cases e : ky y = ky x
    · rw [List.find?_cons_of_pos (by simp [e])]
      rcases List.mem_cons.mp h with rfl | hx
      · rfl
      · exact absurd (List.mem_map_of_mem (f := ky) hx) (e ▸ nd.1)
    · rw [List.find?_cons_of_neg (by simp [e])]
      rcases List.mem_cons.mp h with rfl | hx
      · exact absurd rfl e
      · exact look_map_mem nd.2 hx
theorem cutT_take {xs : List α} {k : Nat} : cutT xs none (some (k : Int)) = xs.take k := by
  unfold cutT
  rw [HT.sIx_none, HT.sIx_nat, Nat.sub_zero, List.drop_zero, List.take_eq_take_iff]
  omega
theorem cutT_drop {xs : List α} {k : Nat} : cutT xs (some (k : Int)) none = xs.drop k := by
  unfold cutT
  rw [HT.sIx_none, HT.sIx_nat]
  by_cases h : k ≤ xs.length
  · rw [Nat.min_eq_left h, List.take_of_length_le (by simp)]
  · rw [Nat.min_eq_right (by omega), List.drop_of_length_le (Nat.le_refl _), List.drop_of_length_le (by omega)]
    simp
theorem find_none {p : α → Bool} {l : List α} (h : ∀ x ∈ l, p x = false) : l.find? p = none := List.find?_eq_none.mpr fun x hx => by simp [h x hx]
theorem Dat.eq_of {α : Type} [EncD α] (a b : α) (h : EncD.dep α ≤ 12) : (Dat.of a h).eq (Dat.of b h) = true ↔ a = b := EncD.deq a b
theorem Dat.eq_same {α : Type} [EncD α] (a : α) (h : EncD.dep α ≤ 12) : (Dat.of a h).eq (Dat.of a h) = true := (EncD.deq a a).mpr rfl
theorem deqD_refl : ∀ a : D, okD a = true → deqD a a = true := fun a h => by
  have := eqv_ok a a h h
  rw [← this]
  exact SeqAt.eqv_refl _ (lay_ok a h)
theorem Dat.refl (a : Dat) : a.eq a = true := deqD_refl _ a.gd.1
end
end FV

set_option Elab.async false
set_option linter.all false
set_option maxRecDepth 100000
set_option maxHeartbeats 4000000
namespace FV
open PySem PySem.Spec PyProof.Rows L2
/-- C(e, .., k = v), told by value; k: the one keyword-only parameter -/
def dMakeVK (c : Nat) (G : FnD) (t : DenA) (kd : Den) : Den := fun ρ st => (t ρ st).bind fun ds st => (kd ρ st).bind fun v st => mkObjV c G (ds ++ [v]) st
/-- the class x whose __init__ has n parameters behind self and one by keyword alone -/
def ClkG (P : Program) (w : World) (T : Tb) (mg : Str → Option Value) (base : Heap) (k c : Nat) (x : Str) (n : Nat) (kw : Str) (G : FnD) : Prop := ∃ C f fd ps, T.CT[c]? = some C ∧ mg x = some (.ref C) ∧ Mk T.K C f ∧ Cls T.K C ∧
  FnOk P w T.K mg base (L2.CX P w) k f fd ps (spR T G) ∧ KBn T.K fd ps (n + 1) [kw] (fun us ws => us ++ ws) (fun vs zs => vs ++ zs)
section
variable {X : Cx} {T : Tb} {W : WX} {k n : Nat} {f C : Addr} {fd : FuncData} {ps : List Str} {G : FnD} {x kw : Str} {p pos kpos : Pos} {e ke : Expr} {es : List Expr} {t : DenA} {kd : Den}
theorem run_makeXK {c : Nat} {pins : List (Addr × Obj)} {σ : L2.St} {H : Hp} {s : Shared} {Q : VK} {us ws : List Value} {vs zs : List V} {M : Mu} {ds : List D} {st : DSto} (hF : Fits X T W) (MK : Mk X.K C f) (hC : T.CT[c]? = some C) (cl : Cls T.K C)
    (F : FnOk X.prog X.w X.K X.mg X.base (L2.CX X.prog X.w) k f fd ps (spR T G)) (hb : KBn X.K fd ps (n + 1) [kw] (fun us ws => us ++ ws) (fun vs zs => vs ++ zs)) (hr : Room (k + 1) X.A) (I : Inv X pins σ H s) (r : Vals vs us) (rz : Vals zs ws) (l1 : vs.length = n) (l2 : zs.length = 1) (so : SOk T M H st) (rv : RVs T M H ds (vs ++ zs)) (h : Post T (RV T) W σ M H (mkObj c G ds st) Q) :
    wpAny (model X.prog X.w) X.A (call (.ref C) us ([kw].zip ws)) (EP X pins σ Q) X.xe s := by
  have nx := I.hok.fresh (Nat.le_succ s.heap.objs.size)
  have nd := I.hok.fresh (Nat.le_refl s.heap.objs.size)
  have ne : s.heap.objs.size ≠ s.heap.objs.size + 1 := Nat.ne_of_lt (Nat.lt_succ_self _)
  obtain ⟨so2, x2⟩ := made_ok (c := c) so hC cl nx nd ne
  have I2 := Inv.made (C := C) I
  have r2 : Vals (V.ref (s.heap.objs.size + 1) :: vs) (Value.ref (s.heap.objs.size + 1) :: us) := .cons rfl r
  have rr : RVs T (M.add (s.heap.objs.size + 1)) (upd (upd H s.heap.objs.size (.own (s.heap.objs.size + 1))) (s.heap.objs.size + 1) (.ins C s.heap.objs.size [])) (.ref st.length :: ds) (V.ref (s.heap.objs.size + 1) :: (vs ++ zs)) := by
    simp only [RVs]
    exact ⟨_, _, rfl, by simp only [RV]; exact ⟨_, rfl, by rw [← so.len]; simp⟩, rv.ex x2⟩
  have hq : spR T G (V.ref (s.heap.objs.size + 1) :: (vs ++ zs)) (upd (upd H s.heap.objs.size (.own (s.heap.objs.size + 1))) (s.heap.objs.size + 1) (.ins C s.heap.objs.size [])) (fun v H2 => v = .non ∧ Q (.ref (s.heap.objs.size + 1)) H2) (fun cls d H => W cls d σ H) := by
    refine spR_of so2 rr ?_
    have h2 := Post.bind (R := RV T) (h.ex x2)
    revert h2
    generalize G (.ref st.length :: ds) (st ++ [.ins c []]) = R
    intro h2
    refine h2.mono fun v H3 ⟨M3, a, st3, s3, x3, r3, h3⟩ => ?_
    cases a with
    | non =>
      simp only [RV] at r3
      refine ⟨r3, h3 M3 _ H3 s3 .refl ?_⟩
      simp only [RV]
      exact ⟨_, rfl, x3.get (by rw [← so.len]; simp)⟩
    | _ => exact h3.elim
  have n1 : (Value.ref (s.heap.objs.size + 1) :: us).length = n + 1 := by
    rw [List.length_cons, ← r.length, l1]
  have r3 := hb.rel r2 rz
  refine wpAny_call (make_map (f := f) I.kIn MK.makes MK.init (beq_iff_eq.mp MK.fn) (codeAny_mono (F.run _ X.stack _ _ ⟨Value.ref (s.heap.objs.size + 1) :: us, [kw].zip ws⟩ ((Value.ref (s.heap.objs.size + 1) :: us) ++ ws) _ _ _ (hr.make C us ([kw].zip ws))
    (I2.env0.make C us ([kw].zip ws)) (hb.to _ (Value.ref (s.heap.objs.size + 1) :: us) ws I2.kIn n1 (rz.length.symm.trans l2)) r3 hq) fun r s' hq' => ?_))
  cases r with
  | error e => exact hF.tk e s' (XE.of_call I2 (fun _ _ _ h => h) hq')
  | ok fl =>
    cases fl with
    | ret u =>
      obtain ⟨v, H', I3, rv, ev, q3⟩ := I2.after hq'
      subst ev
      exact ⟨rv, ⟨V.ref (s.heap.objs.size + 1), H', I3, rfl, q3⟩⟩
    | next => exact False.elim hq'
    | brk => exact False.elim hq'
    | cont => exact False.elim hq'
theorem pxg_makeVK (c : Nat) (hF : Fits X T W) (F : ClkG X.prog X.w T X.mg X.base k c x n kw G) (hr : Room (k + 1) X.A) (ha : PAX X T W (e :: es) t) (hk : PX X T W ke kd) (hn : ∀ ρ st ds st', t ρ st = .ok ds st' → ds.length = n) (hg : Gl X x := by rfl)
    (hall : (backToKw pos (keywordEach [⟨some kw, ke, kpos⟩] X.env)).all (·.1.isSome) = true := by rfl) (hks : (backToKw pos (keywordEach [⟨some kw, ke, kpos⟩] X.env)).filterMap (·.1) = [kw] := by rfl) (hdb : (x == ("__debug__" : Str)) = false := by decide)
    (he : starEach (e :: es) X.env = (false, eval e X.env) :: starEach es X.env := by rfl) (hpl : ((backTo pos (starEach (e :: es) X.env)).any (·.1) || (backToKw pos (keywordEach [⟨some kw, ke, kpos⟩] X.env)).any (·.1.isNone)) = false := by rfl) :
    PX X T W (.Call (.Name x p) (e :: es) [⟨some kw, ke, kpos⟩] pos) (dMakeVK c G t kd) := by
  obtain ⟨C, f, fd, ps, hC, hm, MK, cl, F, hb⟩ := F
  rw [← hF.K] at MK hb
  have F : FnOk X.prog X.w X.K X.mg X.base (L2.CX X.prog X.w) k f fd ps (spR T G) := by rw [hF.K]; exact F
  refine ⟨fun pins s σ H Q I ⟨M', ρ, st, so, eo, h⟩ => ?_⟩
  have hlen : ∀ ds st1, t ρ st = .ok ds st1 → ds.length = n := fun ds st1 => hn ρ st ds st1
  refine wpAny_Call_Name_kw (ld_glob I hg hm ?_ hdb)
  have h0 : tA T W t σ H fun vs H1 => vs.length = n ∧ ∃ M1 ds st1, SOk T M1 H1 st1 ∧ Ex M' H M1 H1 ∧ RVs T M1 H1 ds vs ∧ Post T (RV T) W σ M1 H1 ((kd ρ st1).bind fun v st => mkObjV c G (ds ++ [v]) st) Q := by
    refine ⟨M', ρ, st, so, eo, ?_⟩
    replace h : Post T (RV T) W σ M' H ((t ρ st).bind fun ds st => (kd ρ st).bind fun v st => mkObjV c G (ds ++ [v]) st) Q := h
    cases q : t ρ st with
    | bad => rw [q] at h; exact h
    | exc c' fs st1 => rw [q] at h; exact h
    | ok ds st1 =>
      rw [q, DRes.bind_ok] at h
      intro M1 v H1 s1 x1 r1
      exact ⟨by rw [r1.len]; exact hlen ds st1 q, M1, ds, st1, s1, x1, r1, Post.ex h x1⟩
  refine PySem.W.callWith_KW (h₀ := X.base) I.ok.mod.kin MK.kp hall (thn (ha.run pos pins s σ H _ I h0) fun us s1 ⟨vs, H1, I1, r, l1, M1, ds, st1, s1', x1, r1, h1⟩ => ?_) hpl he
  have hk' : tCons (tI T W kd) tNil σ H1 fun zs H2 => zs.length = 1 ∧ ∃ M2 v st2, SOk T M2 H2 st2 ∧ Ex M1 H1 M2 H2 ∧ RVs T M2 H2 [v] zs ∧ Post T (RV T) W σ M2 H2 (mkObjV c G (ds ++ [v]) st2) Q := by
    refine ⟨M1, ρ, st1, s1', eo.ex x1, (Post.bind (R := RV T) h1).mono fun v H2 ⟨M2, d, st2, s2, x2, r2, h2⟩ => ?_⟩
    exact ⟨rfl, M2, d, st2, s2, x2, RVs.one r2, h2⟩
  refine thn ((pk_cons (nm := some kw) (kpos := kpos) hk pk_nil).run pos pins s1 σ H1 _ I1 hk') fun ws s2 ⟨zs, H2, I2, rz, l2, M2, v, st2, s2', x2, r2, h2⟩ => ⟨I2.kIn, ?_⟩
  rw [hks]
  exact run_makeXK hF MK hC cl F hb hr I2 r rz l1 l2 s2' ((r1.ex x2).app r2) (Post.popR s2' h2)
end
theorem args_len2 {a b : Den} : ∀ ρ st ds st', dCons a (dCons b dNil) ρ st = .ok ds st' → ds.length = 2 := fun ρ st ds st' h => by
  unfold dCons at h
  cases q : a ρ st with
  | bad => rw [q] at h; cases h
  | exc c fs s => rw [q] at h; cases h
  | ok x st1 =>
    rw [q, DRes.bind_ok] at h
    cases q2 : b ρ st1 with
    | bad => rw [q2] at h; cases h
    | exc c fs s => rw [q2] at h; cases h
    | ok y st2 =>
      rw [q2, DRes.bind_ok] at h
      cases h; rfl
theorem clkg_of {P : Program} {w : World} {T : Tb} {mg : Str → Option Value} {base : Heap} {N ps : List Str} {qual X kw : Str} {st : Stmt} {f C : Addr} {fd : FuncData} {k c n : Nat} {b : DenS} (F : Fun T.K "__init__" qual st f fd) (hC : T.CT[c]? = some C) (hm : mg X = some (.ref C)) (cl : Cls T.K C) (mk : PySem.W.makesIn T.K C = true) (kc : PySem.W.keepIn T.K (.ref C) = true) (a : PySem.W.findIn T.K (.ref C) "__init__" = some (some (.ref f))) (i : PySem.W.isFn T.K (.ref f) = true)
    (S : FnScope N ps (defScope st)) (hb : KBn T.K fd ps (n + 1) [kw] (fun us ws => us ++ ws) (fun vs zs => vs ++ zs)) {G : FnD} (hG : IsBody ps.length N.length b G) (h : BodyX P w T mg base k N qual st f b) : ClkG P w T mg base (k + 1) c X n kw G :=
  ⟨C, f, fd, ps, hC, hm, ⟨mk, a, i, kc⟩, cl, fnok_body F S hG h, hb⟩
end FV

set_option Elab.async false
set_option linter.all false
set_option maxRecDepth 100000
set_option maxHeartbeats 4000000
namespace K08
open PySem PySem.Spec PyProof.Rows FV

def den_Program_d_initd_ : DenS :=
  (dSeq (dSetF 2 8 (dVar 0) (dVar 1))
    (dSeq (dSetF 2 9 (dVar 0) (dB' tupleO (dCons (dB' listDO (dCons (dVar 2) dNil)) dNil)))
    (dSeq (dSetF 2 10 (dVar 0) (dTup dNil))
    (dSeq (dSetF 2 11 (dVar 0) (dDct true))
    (dSeq (dIfS (dB (dOp gtO (dB' lenO (dCons (dFld 9 (dVar 0)) dNil)) (dC (.int 6)))) (dRaise 10 [35] (some 0) (dCons (dC (.str (PySem.Str.ofString "walks"))) dNil)) dSkip)
    (dFor false [3, 4, 5, 6] (dIItems (dVar 2)) (gdTup 2 (gdCons (gdName 3) (gdCons (gdName 4) gdNil))) (dFor false [5, 6] (dIItems (dVar 4)) (gdTup 2 (gdCons (gdName 5) (gdCons (gdName 6) gdNil))) (dAsgG dBad (gdSub (dFld 11 (dVar 0)) (dTup (dCons (dVar 3) (dCons (dVar 5) dNil))) setO)))))))))
def G_Program_d_initd_ : FnD := bodyP 3 7 den_Program_d_initd_

def den_Grammar_check_names : DenS :=
  (dSeq (dIfS (dB (dOp gtO (dB' lenO (dCons (dFld 1 (dVar 0)) dNil)) (dC (.int 6)))) (dRaise 10 [35] (some 0) (dCons (dC (.str (PySem.Str.ofString "fields"))) dNil)) dSkip)
    (dSeq (dIfS (dB (dOp ltO (dLenSet (dFld 1 (dVar 0))) (dB' lenO (dCons (dFld 1 (dVar 0)) dNil)))) (dRaise 12 [37] (some 0) (dCons (dC (.str (PySem.Str.ofString "fields"))) dNil)) dSkip)
    (dSeq (dIfS (dOr (dB (dOp eqO (dB' lenO (dCons (dFld 2 (dVar 0)) dNil)) (dC (.int 0)))) (dB (dOp ltO (dLenSet (dFld 2 (dVar 0))) (dB' lenO (dCons (dFld 2 (dVar 0)) dNil))))) (dRaise 12 [37] (some 0) (dCons (dC (.str (PySem.Str.ofString "kinds"))) dNil)) dSkip)
    (dSeq (dIfS (dB (dOp gtO (dB' lenO (dCons (dFld 2 (dVar 0)) dNil)) (dC (.int 8)))) (dRaise 10 [35] (some 0) (dCons (dC (.str (PySem.Str.ofString "kinds"))) dNil)) dSkip)
    (dFor false [2] (dISeq (dVar 1)) (gdName 2) (dIfS (dB (dOp gtO (dVar 2) (dC (.int 3)))) (dRaise 10 [35] (some 0) (dCons (dC (.str (PySem.Str.ofString "children"))) dNil)) dSkip))))))
def G_Grammar_check_names : FnD := bodyF 2 3 den_Grammar_check_names

def den_Grammar_check_families : DenS :=
  (dSeq (dIfS (dB (dOp gtO (dB' lenO (dCons (dFld 5 (dVar 0)) dNil)) (dC (.int 3)))) (dRaise 10 [35] (some 0) (dCons (dC (.str (PySem.Str.ofString "families"))) dNil)) dSkip)
    (dSeq (dFor false [1, 2] (dISeq (dFld 2 (dVar 0))) (gdName 1) (dFor false [2] (dISeq (dOp ixO (dFld 4 (dVar 0)) (dVar 1))) (gdName 2) (dIfS (dB (dOp ninO (dVar 2) (dFld 5 (dVar 0)))) (dRaise 12 [37] (some 0) (dCons (dC (.str (PySem.Str.ofString "children"))) dNil)) dSkip)))
    (dIfS (dB (dOp ninO (dFld 6 (dVar 0)) (dFld 5 (dVar 0)))) (dRaise 12 [37] (some 0) (dCons (dC (.str (PySem.Str.ofString "root"))) dNil)) dSkip)))
def G_Grammar_check_families : FnD := bodyF 1 3 den_Grammar_check_families

def den_Grammar_least_sizes : DenS :=
  (dSeq (popB (dSeq (dAsg 1 (dDct false))
    (dSeq (dAsg 2 (dC (.bl true)))
    (dWhile 1000 false [3, 4, 5, 6] (dB (dVar 2)) (dSeq (dAsg 2 (dC (.bl false)))
    (dFor false [3, 4, 5, 6] (dISeq (dFld 2 (dVar 0))) (gdName 3) (dSeq (dAsg 4 (dOp ixO (dFld 3 (dVar 0)) (dVar 3)))
    (dSeq (dAsg 5 (dOp ixO (dFld 4 (dVar 0)) (dVar 3)))
    (dIfS (dB (dB' allO (dCons (dLcB true (dISeq (dVar 5)) [7] (gdName 7) (stepE dYes (dOp inO (dVar 7) (dVar 1)))) dNil))) (dSeq (dAsg 6 (dOp addO (dC (.int 1)) (dB' sumO (dCons (dLcB true (dISeq (dVar 5)) [7] (gdName 7) (stepE dYes (dOp ixO (dVar 1) (dVar 7)))) dNil))))
    (dIfS (dOr (dB (dOp ninO (dVar 4) (dVar 1))) (dB (dOp ltO (dVar 6) (dOp ixO (dVar 1) (dVar 4))))) (dSeq (dAsgG (dVar 6) (gdSub (dVar 1) (dVar 4) setO))
    (dAsg 2 (dC (.bl true)))) dSkip)) dSkip)))))))))
    (dRet (dVar 1)))
def G_Grammar_least_sizes : FnD := bodyP 1 8 den_Grammar_least_sizes

def den_Grammar_d_initd_ : DenS :=
  (dSeq (dSetF 1 1 (dVar 0) (dB' tupleO (dCons (dVar 1) dNil)))
    (dSeq (dSetF 1 2 (dVar 0) (dB' tupleO (dCons (dLcB true (dISeq (dVar 2)) [5, 7] (gdTup 3 (gdCons (gdName 5) (gdCons (gdName 7) (gdCons (gdName 7) gdNil)))) (stepE dYes (dVar 5))) dNil)))
    (dSeq (dSetF 1 3 (dVar 0) (dDcB (dISeq (dVar 2)) [5, 6, 7] (gdTup 3 (gdCons (gdName 5) (gdCons (gdName 6) (gdCons (gdName 7) gdNil)))) (stepD dYes (dVar 5) (dVar 6))))
    (dSeq (dSetF 1 4 (dVar 0) (dDcB (dISeq (dVar 2)) [5, 7, 8] (gdTup 3 (gdCons (gdName 5) (gdCons (gdName 7) (gdCons (gdName 8) gdNil)))) (stepD dYes (dVar 5) (dB' tupleO (dCons (dVar 8) dNil)))))
    (dSeq (dExpr (dMeth 1 G_Grammar_check_names (dVar 0) (dCons (dLcB true (dISeq (dVar 2)) [7, 8] (gdTup 3 (gdCons (gdName 7) (gdCons (gdName 7) (gdCons (gdName 8) gdNil)))) (stepE dYes (dB' lenO (dCons (dVar 8) dNil)))) dNil)))
    (dSeq (dSetF 1 5 (dVar 0) (dTup dNil))
    (dSeq (dFor false [4] (dISeq (dFld 2 (dVar 0))) (gdName 4) (dIfS (dB (dOp ninO (dOp ixO (dFld 3 (dVar 0)) (dVar 4)) (dFld 5 (dVar 0)))) (dSetF 1 5 (dVar 0) (dTup (dStar (dFld 5 (dVar 0)) (dCons (dOp ixO (dFld 3 (dVar 0)) (dVar 4)) dNil)))) dSkip))
    (dSeq (dSetF 1 6 (dVar 0) (dIf (dB (dOp isO (dVar 3) (dC .non))) (dOp ixO (dFld 5 (dVar 0)) (dC (.int 0))) (dVar 3)))
    (dSeq (dExpr (dMeth 1 G_Grammar_check_families (dVar 0) dNil))
    (dSeq (dSetF 1 7 (dVar 0) (dMeth 1 G_Grammar_least_sizes (dVar 0) dNil))
    (dIfS (dB (dOp ltO (dB' lenO (dCons (dFld 7 (dVar 0)) dNil)) (dB' lenO (dCons (dFld 5 (dVar 0)) dNil)))) (dRaise 12 [37] (some 0) (dCons (dC (.str (PySem.Str.ofString "finite"))) dNil)) dSkip)))))))))))
def H_Grammar_d_initd_ : FnD := bodyF 4 9 den_Grammar_d_initd_
def G_Grammar_d_initd_ : FnD := kwN H_Grammar_d_initd_

def den_law_due : DenS :=
  (dSeq (dIfS (dB (dOp gtO (dB' lenO (dCons (dVar 1) dNil)) (dC (.int 6)))) (dRet (dTup (dCons (dC (.str (PySem.Str.ofString "limit"))) (dCons (dC (.str (PySem.Str.ofString "row"))) (dCons (dC (.bl true)) dNil))))) dSkip)
    (dSeq (dFor false [2] (dISeq (dVar 1)) (gdName 2) (dIfS (dB (dOp ninO (dVar 2) (dVar 0))) (dRet (dTup (dCons (dC (.str (PySem.Str.ofString "unknown"))) (dCons (dVar 2) (dCons (dC (.bl true)) dNil))))) dSkip))
    (dRet (dTup (dCons (dC (.str (PySem.Str.ofString "row"))) (dCons (dB' tupleO (dCons (dVar 1) dNil)) dNil))))))
def G_law_due : FnD := bodyF 2 3 den_law_due

def den_Program_row : DenS :=
  (dSeq (dIfS (dB (dOp gtO (dB' lenO (dCons (dVar 1) dNil)) (dC (.int 6)))) (dRaise 10 [35] (some 0) (dCons (dC (.str (PySem.Str.ofString "row"))) dNil)) dSkip)
    (dSeq (dFor false [2] (dISeq (dVar 1)) (gdName 2) (dIfS (dB (dOp ninO (dVar 2) (dFld 9 (dVar 0)))) (dRaise 11 [36] (some 0) (dCons (dVar 2) dNil)) dSkip))
    (dRet (dB' tupleO (dCons (dVar 1) dNil)))))
def G_Program_row : FnD := bodyF 2 3 den_Program_row

def den_law_told : DenS :=
  (dTry (dRet (dTup (dCons (dC (.str (PySem.Str.ofString "row"))) (dCons (dMeth 2 G_Program_row (dVar 0) (dCons (dVar 1) dNil)) dNil)))) [⟨[(10, true), (11, false)], (some 2), (dRet (dTup (dCons (dC (.str (PySem.Str.ofString "limit"))) (dCons (dExf 35 (dVar 2)) (dCons (dAndV (dIsE [(10, true)] (dVar 2)) (dNotV (dIsE [(10, false)] (dVar 2)))) dNil)))))⟩, ⟨[(10, false), (11, true)], (some 2), (dRet (dTup (dCons (dC (.str (PySem.Str.ofString "unknown"))) (dCons (dExf 36 (dVar 2)) (dCons (dAndV (dIsE [(11, true)] (dVar 2)) (dIsE [(11, true)] (dVar 2))) dNil)))))⟩])
def G_law_told : FnD := bodyF 2 3 den_law_told

def den_law : DenS :=
  (dSeq (dAsg 1 (dCall G_law_source (dCons (dVar 0) dNil)))
    (dSeq (dAsg 2 (dCall G_law_names (dCons (dVar 1) (dCons (dOp addO (dC (.int 1)) (dCall G_law_draw (dCons (dVar 1) (dCons (dC (.int 6)) dNil)))) dNil))))
    (dSeq (popB (dSeq (dAsg 3 (dDct false))
    (dFor false [4] (dISeq (dVar 2)) (gdName 4) (dAsgG dDctV (gdSub (dVar 3) (dVar 4) setO)))))
    (dSeq (dAsg 5 (dMake 2 G_Program_d_initd_ (dCons (dMakeV 1 G_Grammar_d_initd_ (dCons (dLstV dNil) (dCons (dLstV (dCons (dTup (dCons (dC (.str (PySem.Str.ofString "only"))) (dCons (dC (.str (PySem.Str.ofString "lonely"))) (dCons (dLstV dNil) dNil)))) dNil)) dNil))) (dCons (dVar 3) dNil))))
    (dSeq (popB (dSeq (dAsg 6 (dLst dNil))
    (dFor false [7, 11] (dIRng1 (dCall G_law_draw (dCons (dVar 1) (dCons (dC (.int 9)) dNil)))) (gdName 7) (dSeq (dAsg 11 (dOp ixO (dLstV (dCons (dC (.str (PySem.Str.ofString "unknownname"))) (dCons (dC (.str (PySem.Str.ofString "strangewalk"))) dNil))) (dOp modO (dB' intO (dCons (dVar 7) dNil)) (dC (.int 2)))))
    (dExpr (dApp (dVar 6) (dIf (dB (dOp eqO (dCall G_law_draw (dCons (dVar 1) (dCons (dC (.int 6)) dNil))) (dC (.int 5)))) (dVar 11) (dOp ixO (dVar 2) (dCall G_law_draw (dCons (dVar 1) (dCons (dB' lenO (dCons (dVar 2) dNil)) dNil)))))))))))
    (dSeq (dAsg 8 (dB' listDO (dCons (dVar 6) dNil)))
    (dSeq (dAsg 9 (dCall G_law_due (dCons (dVar 2) (dCons (dVar 6) dNil))))
    (dSeq (dIfS (dOr (dB (dOp neO (dCall G_law_told (dCons (dVar 5) (dCons (dVar 6) dNil))) (dVar 9))) (dOr (dB (dOp neO (dVar 6) (dVar 8))) (dB (dOp neO (dCall G_law_told (dCons (dVar 5) (dCons (dB' tupleO (dCons (dVar 6) dNil)) dNil))) (dVar 9))))) (dRet (dC (.bl false))) dSkip)
    (dSeq (dAsg 10 (dSl (dLcB true (dISeq (dVar 6)) [4] (gdName 4) (stepE (dB (dOp inO (dVar 4) (dVar 2))) (dVar 4))) none (some (dC (.int 6)))))
    (dRet (dAndV (dOp eqO (dCall G_law_told (dCons (dVar 5) (dCons (dVar 10) dNil))) (dTup (dCons (dC (.str (PySem.Str.ofString "row"))) (dCons (dB' tupleO (dCons (dVar 10) dNil)) dNil)))) (dOp eqO (dMeth 2 G_Program_row (dVar 5) (dCons (dLstV dNil) dNil)) (dTup dNil)))))))))))))
def G_law : FnD := bodyP 1 12 den_law
end K08

set_option Elab.async false
set_option linter.all false
set_option maxRecDepth 100000
set_option maxHeartbeats 400000
namespace K08
open PySem PySem.Spec PyProof.Rows L2 FV Enc
structure GrammarV where
  fields : (FV.Vt Name)
  kinds : (FV.Vt Name)
  familyOf : (FV.Dc Name Name)
  childrenOf : (FV.Dc Name (FV.Vt Name))
  families : (FV.Vt Name)
  root : Name
  sizes : (FV.Dc Name Int)
instance : Enc GrammarV := ⟨fun v => .ins 1 [(1, en v.fields), (2, en v.kinds), (3, en v.familyOf), (4, en v.childrenOf), (5, en v.families), (6, en v.root), (7, en v.sizes)]⟩
instance : Pu GrammarV := ⟨fun v => pure_ins fun p hp => by
  simp only [List.mem_cons, List.not_mem_nil, or_false] at hp
  rcases hp with rfl | rfl | rfl | rfl | rfl | rfl | rfl <;> exact Pu.pu _⟩
structure ProgramV where
  grammar : GrammarV
  names : (FV.Vt Name)
  ignored : (FV.Vt Name)
  bodies : (FV.Dc (T2 Name Name) (FV.Vt Stm))
instance : Enc ProgramV := ⟨fun v => .ins 2 [(8, en v.grammar), (9, en v.names), (10, en v.ignored), (11, en v.bodies)]⟩
instance : Pu ProgramV := ⟨fun v => pure_ins fun p hp => by
  simp only [List.mem_cons, List.not_mem_nil, or_false] at hp
  rcases hp with rfl | rfl | rfl | rfl <;> exact Pu.pu _⟩
def N_walks : Name := ⟨PySem.Str.ofString "walks", by decide +kernel, by decide +kernel⟩
def N_fields : Name := ⟨PySem.Str.ofString "fields", by decide +kernel, by decide +kernel⟩
def N_kinds : Name := ⟨PySem.Str.ofString "kinds", by decide +kernel, by decide +kernel⟩
def N_children : Name := ⟨PySem.Str.ofString "children", by decide +kernel, by decide +kernel⟩
def N_families : Name := ⟨PySem.Str.ofString "families", by decide +kernel, by decide +kernel⟩
def N_root : Name := ⟨PySem.Str.ofString "root", by decide +kernel, by decide +kernel⟩
def N_finite : Name := ⟨PySem.Str.ofString "finite", by decide +kernel, by decide +kernel⟩
def N_limit : Name := ⟨PySem.Str.ofString "limit", by decide +kernel, by decide +kernel⟩
def N_row : Name := ⟨PySem.Str.ofString "row", by decide +kernel, by decide +kernel⟩
def N_unknown : Name := ⟨PySem.Str.ofString "unknown", by decide +kernel, by decide +kernel⟩
def N_only : Name := ⟨PySem.Str.ofString "only", by decide +kernel, by decide +kernel⟩
def N_lonely : Name := ⟨PySem.Str.ofString "lonely", by decide +kernel, by decide +kernel⟩
def N_unknownname : Name := ⟨PySem.Str.ofString "unknownname", by decide +kernel, by decide +kernel⟩
def N_strangewalk : Name := ⟨PySem.Str.ofString "strangewalk", by decide +kernel, by decide +kernel⟩
noncomputable def T_Program_d_initd_ (grammar : GrammarV) (walks : (FV.Dc Name (FV.Dc Name (List Stm)))) : RS Unit ProgramV :=
  ((((keysT walks ()).bind fun x1 _ => (RS.ok (Vt.mk x1) ())).bindS fun names2 _ => (if (decide ((6 : Int) < (names2.l.length : Int))) = true then (.exc 10 [(35, en (N_walks : Name))] ()) else ((forT (fun (walk4 : (T2 Name (FV.Dc Name (List Stm)))) (v3 : Unit) _ => ((forT (fun (kind6 : (T2 Name (List Stm))) (v5 : Unit) _ => .bad) (itemsT walk4.b) () ()).andThen fun (v5 : Unit) _ => (.nx () ()))) (itemsT walks) () ()).andThen fun (v3 : Unit) _ => (.nx (⟨grammar, names2, (⟨[]⟩ : (FV.Vt Name)), (Dc.mk [])⟩ : ProgramV) ())))) : TSt Unit ProgramV Unit Unit).mk

theorem ok_Program_d_initd_ {st : DSto} {n : Nat} {grammar : GrammarV} {walks : (FV.Dc Name (FV.Dc Name (List Stm)))} (hn : st.length = n) : MJ 2 (fun v : ProgramV => [(8, en v.grammar), (9, en v.names), (10, en v.ignored), (11, en v.bodies)]) (fun _ => st) n (mkObj 2 G_Program_d_initd_ [en grammar, en walks] st) (T_Program_d_initd_ grammar walks) := by
  unfold T_Program_d_initd_
  exact tf_mkR rfl hn (ts_setF (v_var rfl) (v_var rfl) (g0 hn) rfl (z0 hn) (ts_setFC (S := fun _ => (st ++ [DObj.ins 2 [(8, en (grammar : GrammarV))]])) (S' := fun (names2 : (FV.Vt Name)) _ => (st ++ [DObj.ins 2 [(8, en (grammar : GrammarV)), (9, en (names2 : (FV.Vt Name)))]])) (tk_C (tj_V (va_cons (v_var rfl) va_nil) c_keys) fun x1 _ => (tk_nil (tj_ok (ofo b_tuple)))) (fun _ _ p => ⟨⟨_, (pop_ins (by intro z; cases z) (rsf_p (Pu.pu (grammar : GrammarV)) rsf_nil'))⟩, p⟩) (fun _ => (v_var rfl)) (fun _ => (g0 hn)) rfl (fun _ _ => (z0 hn)) fun names2 _ => (ts_setF (v_tup va_nil) (v_var rfl) (g0 hn) rfl (z0 hn) (ts_setFD (l1 hn) a1 (v_var rfl) (g0 hn) rfl (z0 hn) (ts_ifX (v_B (v_op (v_blt (va_cons (v_fld (v_var rfl) (f_of (insR (g0 hn)) rfl)) va_nil) (b_lenTE (l := names2))) v_c o_gt)) (fun _ => (ts_raise (va_cons v_c va_nil) rfl rfl (okm N_walks.sz) rfl ⟨⟨_, (pop_ins (by intro z; cases z) (rsf_p (Pu.pu (grammar : GrammarV)) (rsf_p (Pu.pu (names2 : (FV.Vt Name))) (rsf_p (Pu.pu ((⟨[]⟩ : (FV.Vt Name)) : (FV.Vt Name))) (rsf_r (fz_dct (κ := (T2 Name Name)) (α := (FV.Vt Stm)) (l := []) (by simp [hn]) (g1 hn)) rsf_nil')))))⟩, (pf_cons (Pu.pu (N_walks : Name)) pf_nil)⟩)) fun _ => (ts_last (ts_seq (E := fun v3 : Unit => [some (D.ref n), some (en (grammar : GrammarV)), some (en (walks : (FV.Dc Name (FV.Dc Name (List Stm))))), none, none, none, none]) (S₁ := fun (v3 : Unit) _ => (st ++ [DObj.ins 2 [(8, en (grammar : GrammarV)), (9, en (names2 : (FV.Vt Name))), (10, en ((⟨[]⟩ : (FV.Vt Name)) : (FV.Vt Name))), (11, D.ref (n + 1))], DObj.dct (EncK.t (T2 Name Name)) (([] : List ((T2 Name Name) × (FV.Vt Stm))).map fun p => (en p.1, en p.2))])) (ts_iterV (i_itemsT (v_var rfl)) (ts_for (f := en) (xs := (itemsT walks)) (v := (() : Unit)) (s := ()) (E := fun v3 : Unit => [some (D.ref n), some (en (grammar : GrammarV)), some (en (walks : (FV.Dc Name (FV.Dc Name (List Stm))))), none, none, none, none]) (S₁ := fun (v3 : Unit) _ => (st ++ [DObj.ins 2 [(8, en (grammar : GrammarV)), (9, en (names2 : (FV.Vt Name))), (10, en ((⟨[]⟩ : (FV.Vt Name)) : (FV.Vt Name))), (11, D.ref (n + 1))], DObj.dct (EncK.t (T2 Name Name)) (([] : List ((T2 Name Name) × (FV.Vt Stm))).map fun p => (en p.1, en p.2))])) (E1 := fun (walk4 : (T2 Name (FV.Dc Name (List Stm)))) (v3 : Unit) => [some (D.ref n), some (en (grammar : GrammarV)), some (en (walks : (FV.Dc Name (FV.Dc Name (List Stm))))), some (en (walk4.a : Name)), some (en (walk4.b : (FV.Dc Name (List Stm)))), none, none]) (fun _ _ => rfl) (fun _ _ _ => rfl) fun walk4 v3 _ => (ts_last (ts_seq (E := fun v5 : Unit => [some (D.ref n), some (en (grammar : GrammarV)), some (en (walks : (FV.Dc Name (FV.Dc Name (List Stm))))), some (en (walk4.a : Name)), some (en (walk4.b : (FV.Dc Name (List Stm)))), none, none]) (S₁ := fun (v5 : Unit) _ => (st ++ [DObj.ins 2 [(8, en (grammar : GrammarV)), (9, en (names2 : (FV.Vt Name))), (10, en ((⟨[]⟩ : (FV.Vt Name)) : (FV.Vt Name))), (11, D.ref (n + 1))], DObj.dct (EncK.t (T2 Name Name)) (([] : List ((T2 Name Name) × (FV.Vt Stm))).map fun p => (en p.1, en p.2))])) (ts_iterV (i_itemsT (v_var rfl)) (ts_for (f := en) (xs := (itemsT walk4.b)) (v := (() : Unit)) (s := ()) (E := fun v5 : Unit => [some (D.ref n), some (en (grammar : GrammarV)), some (en (walks : (FV.Dc Name (FV.Dc Name (List Stm))))), some (en (walk4.a : Name)), some (en (walk4.b : (FV.Dc Name (List Stm)))), none, none]) (S₁ := fun (v5 : Unit) _ => (st ++ [DObj.ins 2 [(8, en (grammar : GrammarV)), (9, en (names2 : (FV.Vt Name))), (10, en ((⟨[]⟩ : (FV.Vt Name)) : (FV.Vt Name))), (11, D.ref (n + 1))], DObj.dct (EncK.t (T2 Name Name)) (([] : List ((T2 Name Name) × (FV.Vt Stm))).map fun p => (en p.1, en p.2))])) (E1 := fun (kind6 : (T2 Name (List Stm))) (v5 : Unit) => [some (D.ref n), some (en (grammar : GrammarV)), some (en (walks : (FV.Dc Name (FV.Dc Name (List Stm))))), some (en (walk4.a : Name)), some (en (walk4.b : (FV.Dc Name (List Stm)))), some (en (kind6.a : Name)), some (en (kind6.b : (List Stm)))]) (fun _ _ => rfl) (fun _ _ _ => rfl) fun kind6 v5 _ => (ts_last ts_bad))) fun v5 _ => (ts_nx rfl))))) fun v3 _ => (ts_nx (pop_ins (by intro z; cases z) (rsf_p (Pu.pu (grammar : GrammarV)) (rsf_p (Pu.pu (names2 : (FV.Vt Name))) (rsf_p (Pu.pu ((⟨[]⟩ : (FV.Vt Name)) : (FV.Vt Name))) (rsf_r (fz_dct (κ := (T2 Name Name)) (α := (FV.Vt Stm)) (l := []) (by simp [hn]) (g1 hn)) rsf_nil')))))))))))))

noncomputable def T_Grammar_check_names (self_fields : (FV.Vt Name)) (self_kinds : (FV.Vt Name)) (widths : (List Int)) : RS Unit Unit :=
  ((if (decide ((6 : Int) < (self_fields.l.length : Int))) = true then (.exc 10 [(35, en (N_fields : Name))] ()) else (((lenSetT self_fields.l ()).bind fun x1 _ => (RS.ok (decide (x1 < (self_fields.l.length : Int))) ())).bindS fun k7 _ => if k7 = true then (.exc 12 [(37, en (N_fields : Name))] ()) else (((RS.ok (decide (((self_kinds.l.length : Int) : Int) = (0 : Int))) ()).bind fun k3 _ => if k3 = true then (RS.ok true ()) else ((lenSetT self_kinds.l ()).bind fun x2 _ => (RS.ok (decide (x2 < (self_kinds.l.length : Int))) ()))).bindS fun k6 _ => if k6 = true then (.exc 12 [(37, en (N_kinds : Name))] ()) else (if (decide ((8 : Int) < (self_kinds.l.length : Int))) = true then (.exc 10 [(35, en (N_kinds : Name))] ()) else ((forT (fun (width5 : Int) (v4 : Unit) _ => (if (decide ((3 : Int) < width5)) = true then (.exc 10 [(35, en (N_children : Name))] ()) else (.nx () ()))) widths () ()).andThen fun (v4 : Unit) _ => (.nx () ())))))) : TSt Unit Unit Unit Unit).finN

theorem ok_Grammar_check_names {st : DSto} {self_fields : (FV.Vt Name)} {self_kinds : (FV.Vt Name)} {widths : (List Int)} {x_self : D} {fs_self : List (Nat × D)} (h_x_self : insD x_self st = some (1, fs_self)) (g_self_fields : getN 1 fs_self = some (en self_fields)) (g_self_kinds : getN 2 fs_self = some (en self_kinds)) : TJ en (fun _ => st) (G_Grammar_check_names [x_self, en widths] st) (T_Grammar_check_names self_fields self_kinds widths) := by
  unfold G_Grammar_check_names T_Grammar_check_names
  exact tf_FN (E := [some x_self, some (en (widths : (List Int))), none]) rfl rfl (ts_ifX (v_B (v_op (v_blt (va_cons (v_fld (v_var rfl) (f_of h_x_self g_self_fields)) va_nil) (b_lenTE (l := self_fields))) v_c o_gt)) (fun _ => (ts_raise (va_cons v_c va_nil) rfl rfl (okm N_fields.sz) rfl ⟨rfl, (pf_cons (Pu.pu (N_fields : Name)) pf_nil)⟩)) fun _ => (ts_ifXC (S := fun _ => st) (c_B (tj_C (c_lenSet (v_fld (v_var rfl) (f_of h_x_self g_self_fields))) fun x1 _ => (tj_V (v_blt (va_cons (v_fld (v_var rfl) (f_of h_x_self g_self_fields)) va_nil) (b_lenTE (l := self_fields))) (tj_ok (ofo o_lt))))) (fun _ _ p => ⟨rfl, p⟩) (fun _ => (ts_raise (va_cons v_c va_nil) rfl rfl (okm N_fields.sz) rfl ⟨rfl, (pf_cons (Pu.pu (N_fields : Name)) pf_nil)⟩)) fun _ => (ts_ifXC (S := fun _ => st) (c_or (tj_ok (v_B (v_op (v_blt (va_cons (v_fld (v_var rfl) (f_of h_x_self g_self_kinds)) va_nil) (b_lenTE (l := self_kinds))) v_c (o_eq (a := ((self_kinds.l.length : Int) : Int)) (b := (0 : Int)))))) fun _ => (c_B (tj_C (c_lenSet (v_fld (v_var rfl) (f_of h_x_self g_self_kinds))) fun x2 _ => (tj_V (v_blt (va_cons (v_fld (v_var rfl) (f_of h_x_self g_self_kinds)) va_nil) (b_lenTE (l := self_kinds))) (tj_ok (ofo o_lt)))))) (fun _ _ p => ⟨rfl, p⟩) (fun _ => (ts_raise (va_cons v_c va_nil) rfl rfl (okm N_kinds.sz) rfl ⟨rfl, (pf_cons (Pu.pu (N_kinds : Name)) pf_nil)⟩)) fun _ => (ts_ifX (v_B (v_op (v_blt (va_cons (v_fld (v_var rfl) (f_of h_x_self g_self_kinds)) va_nil) (b_lenTE (l := self_kinds))) v_c o_gt)) (fun _ => (ts_raise (va_cons v_c va_nil) rfl rfl (okm N_kinds.sz) rfl ⟨rfl, (pf_cons (Pu.pu (N_kinds : Name)) pf_nil)⟩)) fun _ => (ts_last (ts_seq (E := fun v4 : Unit => [some x_self, some (en (widths : (List Int))), none]) (S₁ := fun (v4 : Unit) _ => st) (ts_iterV (i_lst (v_var rfl)) (ts_for (f := en) (xs := widths) (v := (() : Unit)) (s := ()) (E := fun v4 : Unit => [some x_self, some (en (widths : (List Int))), none]) (S₁ := fun (v4 : Unit) _ => st) (E1 := fun (width5 : Int) (v4 : Unit) => [some x_self, some (en (widths : (List Int))), some (en (width5 : Int))]) (fun _ _ => rfl) (fun _ _ _ => rfl) fun width5 v4 _ => (ts_last (ts_ifX (v_B (v_op (v_var rfl) v_c o_gt)) (fun _ => (ts_raise (va_cons v_c va_nil) rfl rfl (okm N_children.sz) rfl ⟨rfl, (pf_cons (Pu.pu (N_children : Name)) pf_nil)⟩)) fun _ => (ts_nx rfl))))) fun v4 _ => (ts_nx rfl)))))))

noncomputable def T_Grammar_check_families (self_kinds : (FV.Vt Name)) (self_children : (FV.Dc Name (FV.Vt Name))) (self_families : (FV.Vt Name)) (self_root : Name) : RS Unit Unit :=
  ((if (decide ((3 : Int) < (self_families.l.length : Int))) = true then (.exc 10 [(35, en (N_families : Name))] ()) else ((forT (fun (kind2 : Name) (v1 : Unit) _ => ((((lookT self_children.l kind2 ()).bind fun x s_ => RS.ok x.l s_).bindS fun l3 _ => forT (fun (family5 : Name) (v4 : Unit) _ => (if (!decide (family5 ∈ self_families.l)) = true then (.exc 12 [(37, en (N_children : Name))] ()) else (.nx () ()))) l3 () ()).andThen fun (v4 : Unit) _ => (.nx () ()))) self_kinds.l () ()).andThen fun (v1 : Unit) _ => (if (!decide (self_root ∈ self_families.l)) = true then (.exc 12 [(37, en (N_root : Name))] ()) else (.nx () ())))) : TSt Unit Unit Unit Unit).finN

theorem ok_Grammar_check_families {st : DSto} {self_kinds : (FV.Vt Name)} {self_children : (FV.Dc Name (FV.Vt Name))} {self_families : (FV.Vt Name)} {self_root : Name} {x_self : D} {fs_self : List (Nat × D)} (h_x_self : insD x_self st = some (1, fs_self)) (g_self_kinds : getN 2 fs_self = some (en self_kinds)) (g_self_children : getN 4 fs_self = some (en self_children)) (g_self_families : getN 5 fs_self = some (en self_families)) (g_self_root : getN 6 fs_self = some (en self_root)) : TJ en (fun _ => st) (G_Grammar_check_families [x_self] st) (T_Grammar_check_families self_kinds self_children self_families self_root) := by
  unfold G_Grammar_check_families T_Grammar_check_families
  exact tf_FN (E := [some x_self, none, none]) rfl rfl (ts_ifX (v_B (v_op (v_blt (va_cons (v_fld (v_var rfl) (f_of h_x_self g_self_families)) va_nil) (b_lenTE (l := self_families))) v_c o_gt)) (fun _ => (ts_raise (va_cons v_c va_nil) rfl rfl (okm N_families.sz) rfl ⟨rfl, (pf_cons (Pu.pu (N_families : Name)) pf_nil)⟩)) fun _ => (ts_seq (E := fun v1 : Unit => [some x_self, none, none]) (S₁ := fun (v1 : Unit) _ => st) (ts_iterV (i_tup (v_fld (v_var rfl) (f_of h_x_self g_self_kinds))) (ts_for (f := en) (xs := self_kinds.l) (v := (() : Unit)) (s := ()) (E := fun v1 : Unit => [some x_self, none, none]) (S₁ := fun (v1 : Unit) _ => st) (E1 := fun (kind2 : Name) (v1 : Unit) => [some x_self, some (en (kind2 : Name)), none]) (fun _ _ => rfl) (fun _ _ _ => rfl) fun kind2 v1 _ => (ts_last (ts_seq (E := fun v4 : Unit => [some x_self, some (en (kind2 : Name)), none]) (S₁ := fun (v4 : Unit) _ => st) (ts_iterC (S := fun _ => st) (ci_tup (tj_V (v_fld (v_var rfl) (f_of h_x_self g_self_children)) (tj_V (v_var rfl) (c_ixD (l := self_children) (k := kind2))))) (fun _ _ p => ⟨rfl, p⟩) fun l3 _ => (ts_for (f := en) (xs := l3) (v := (() : Unit)) (s := ()) (E := fun v4 : Unit => [some x_self, some (en (kind2 : Name)), none]) (S₁ := fun (v4 : Unit) _ => st) (E1 := fun (family5 : Name) (v4 : Unit) => [some x_self, some (en (kind2 : Name)), some (en (family5 : Name))]) (fun _ _ => rfl) (fun _ _ _ => rfl) fun family5 v4 _ => (ts_last (ts_ifX (v_B (v_op (v_var rfl) (v_fld (v_var rfl) (f_of h_x_self g_self_families)) (o_ninT (a := family5) (l := self_families)))) (fun _ => (ts_raise (va_cons v_c va_nil) rfl rfl (okm N_children.sz) rfl ⟨rfl, (pf_cons (Pu.pu (N_children : Name)) pf_nil)⟩)) fun _ => (ts_nx rfl))))) fun v4 _ => (ts_nx rfl))))) fun v1 _ => (ts_last (ts_ifX (v_B (v_op (v_fld (v_var rfl) (f_of h_x_self g_self_root)) (v_fld (v_var rfl) (f_of h_x_self g_self_families)) (o_ninT (a := self_root) (l := self_families)))) (fun _ => (ts_raise (va_cons v_c va_nil) rfl rfl (okm N_root.sz) rfl ⟨rfl, (pf_cons (Pu.pu (N_root : Name)) pf_nil)⟩)) fun _ => (ts_nx rfl)))))

noncomputable def T_Grammar_least_sizes (self_kinds : (FV.Vt Name)) (self_families : (FV.Dc Name Name)) (self_children : (FV.Dc Name (FV.Vt Name))) : RS Unit (FV.Dc Name Int) :=
  ((((whileT (fun (v2 : (Bool × List (Name × Int))) _ => (RS.ok v2.1 ())) (fun (v2 : (Bool × List (Name × Int))) _ => ((forT (fun (kind4 : Name) (v3 : (Bool × List (Name × Int))) _ => ((lookT self_families.l kind4 ()).bindS fun family5 _ => ((lookT self_children.l kind4 ()).bindS fun children6 _ => (((lcM children6.l (fun child7 => ((look v3.2 child7).isSome)) ()).bind fun x8 _ => (RS.ok (x8.all id) ())).bindS fun k16 _ => if k16 = true then ((((lcT children6.l (fun child9 _ => (RS.ok true ())) (fun child9 _ => (lookT v3.2 child9 ())) ()).bind fun x10 _ => (RS.ok x10.sum ())).bind fun x11 _ => (RS.ok ((1 : Int) + x11) ())).bindS fun size12 _ => (((RS.ok (!(look v3.2 family5).isSome) ()).bind fun k14 _ => if k14 = true then (RS.ok true ()) else ((lookT v3.2 family5 ()).bind fun x13 _ => (RS.ok (decide (size12 < x13)) ()))).bindS fun k15 _ => if k15 = true then (if v3.2.length < lim then (.nx (true, (put v3.2 family5 size12)) ()) else .bad) else (.nx (v3.1, v3.2) ()))) else (.nx (v3.1, v3.2) ()))))) self_kinds.l (false, v2.2) ()).andThen fun (v3 : (Bool × List (Name × Int))) _ => (.nx (v3.1, v3.2) ()))) 1000 (true, []) ()).andThen fun (v2 : (Bool × List (Name × Int))) _ => (.nx (v2.2, v2.1) ())).andThen fun (v1 : (List (Name × Int) × Bool)) _ => (.rt (Dc.mk v1.1) ())) : TSt Unit Unit Unit (FV.Dc Name Int)).fin

theorem ok_Grammar_least_sizes {st : DSto} {self_kinds : (FV.Vt Name)} {self_families : (FV.Dc Name Name)} {self_children : (FV.Dc Name (FV.Vt Name))} {x_self : D} {fs_self : List (Nat × D)} (h_x_self : insD x_self st = some (1, fs_self)) (g_self_kinds : getN 2 fs_self = some (en self_kinds)) (g_self_families : getN 3 fs_self = some (en self_families)) (g_self_children : getN 4 fs_self = some (en self_children)) : TJ en (fun _ => st) (G_Grammar_least_sizes [x_self] st) (T_Grammar_least_sizes self_kinds self_families self_children) := by
  unfold G_Grammar_least_sizes T_Grammar_least_sizes
  exact tf_P (E := [some x_self, none, none, none, none, none, none, none]) rfl rfl (ts_seq (E := fun v1 : (List (Name × Int) × Bool) => [some x_self, some (en ((Dc.mk v1.1) : (FV.Dc Name Int))), some (en (v1.2 : Bool)), none, none, none, none, none]) (S₁ := fun (v1 : (List (Name × Int) × Bool)) _ => st) (ts_popB (E1 := fun v1 : (List (Name × Int) × Bool) => [some x_self, some (D.ref st.length), some (en (v1.2 : Bool)), none, none, none, none, none]) (S1 := fun (v1 : (List (Name × Int) × Bool)) _ => (st ++ [DObj.dct (EncK.t Name) ((v1.1 : List (Name × Int)).map fun p => (en p.1, en p.2))])) (E2 := fun v1 : (List (Name × Int) × Bool) => [some x_self, some (en ((Dc.mk v1.1) : (FV.Dc Name Int))), some (en (v1.2 : Bool)), none, none, none, none, none]) (S2 := fun (v1 : (List (Name × Int) × Bool)) _ => st) (ts_newD (l0 rfl) a0 (ts_asgV v_c (ts_last (ts_seq (E := fun v2 : (Bool × List (Name × Int)) => [some x_self, some (D.ref st.length), some (en (v2.1 : Bool)), none, none, none, none, none]) (S₁ := fun (v2 : (Bool × List (Name × Int))) _ => (st ++ [DObj.dct (EncK.t Name) ((v2.2 : List (Name × Int)).map fun p => (en p.1, en p.2))])) (ts_while (n := 1000) (v := ((true, []) : (Bool × List (Name × Int)))) (s := ()) (E := fun v2 : (Bool × List (Name × Int)) => [some x_self, some (D.ref st.length), some (en (v2.1 : Bool)), none, none, none, none, none]) (S₁ := fun (v2 : (Bool × List (Name × Int))) _ => (st ++ [DObj.dct (EncK.t Name) ((v2.2 : List (Name × Int)).map fun p => (en p.1, en p.2))])) (fun v2 _ => (tj_ok (v_B (v_var rfl)))) (fun _ _ _ p => ⟨pS0, p⟩) fun v2 _ => (ts_asgV v_c (ts_last (ts_seq (E := fun v3 : (Bool × List (Name × Int)) => [some x_self, some (D.ref st.length), some (en (v3.1 : Bool)), none, none, none, none, none]) (S₁ := fun (v3 : (Bool × List (Name × Int))) _ => (st ++ [DObj.dct (EncK.t Name) ((v3.2 : List (Name × Int)).map fun p => (en p.1, en p.2))])) (ts_iterV (i_tup (v_fld (v_var rfl) (f_of (insL h_x_self) g_self_kinds))) (ts_for (f := en) (xs := self_kinds.l) (v := ((false, v2.2) : (Bool × List (Name × Int)))) (s := ()) (E := fun v3 : (Bool × List (Name × Int)) => [some x_self, some (D.ref st.length), some (en (v3.1 : Bool)), none, none, none, none, none]) (S₁ := fun (v3 : (Bool × List (Name × Int))) _ => (st ++ [DObj.dct (EncK.t Name) ((v3.2 : List (Name × Int)).map fun p => (en p.1, en p.2))])) (E1 := fun (kind4 : Name) (v3 : (Bool × List (Name × Int))) => [some x_self, some (D.ref st.length), some (en (v3.1 : Bool)), some (en (kind4 : Name)), none, none, none, none]) (fun _ _ => rfl) (fun _ _ _ => rfl) fun kind4 v3 _ => (ts_asgC (S := fun _ => (st ++ [DObj.dct (EncK.t Name) ((v3.2 : List (Name × Int)).map fun p => (en p.1, en p.2))])) (tj_V (v_fld (v_var rfl) (f_of (insL h_x_self) g_self_families)) (tj_V (v_var rfl) (c_ixD (l := self_families) (k := kind4)))) (fun _ _ p => ⟨pS0, p⟩) fun family5 _ => (ts_asgC (S := fun _ => (st ++ [DObj.dct (EncK.t Name) ((v3.2 : List (Name × Int)).map fun p => (en p.1, en p.2))])) (tj_V (v_fld (v_var rfl) (f_of (insL h_x_self) g_self_children)) (tj_V (v_var rfl) (c_ixD (l := self_children) (k := kind4)))) (fun _ _ p => ⟨pS0, p⟩) fun children6 _ => (ts_ifC (S := fun _ => (st ++ [DObj.dct (EncK.t Name) ((v3.2 : List (Name × Int)).map fun p => (en p.1, en p.2))])) (c_B (tk_C (c_lcM (h := en) (i_tup (v_var rfl)) rfl (fun _ => rfl) fun child7 => (v_op (v_var rfl) (v_var rfl) (o_inDR (k := child7) (l := v3.2) (g0 rfl)))) fun x8 _ => (tk_nil (tj_ok (ofo b_all))))) (fun _ _ p => ⟨pS0, p⟩) (fun _ => (ts_asgC (S := fun _ => (st ++ [DObj.dct (EncK.t Name) ((v3.2 : List (Name × Int)).map fun p => (en p.1, en p.2))])) (tj_V v_c (tj_C (tk_C (c_lc (h := en) (i_tup (v_var rfl)) (fun _ => rfl) (fun _ _ => rfl) (fun child9 _ => (tj_ok rfl)) fun child9 _ => (tj_V (v_var rfl) (tj_V (v_var rfl) (c_ixDR (k := child9) (l := v3.2) (g0 rfl))))) fun x10 _ => (tk_nil (tj_ok (ofo b_sum)))) fun x11 _ => (tj_ok (ofo o_add)))) (fun _ _ p => ⟨pS0, p⟩) fun size12 _ => (ts_ifC (S := fun _ => (st ++ [DObj.dct (EncK.t Name) ((v3.2 : List (Name × Int)).map fun p => (en p.1, en p.2))])) (c_or (tj_ok (v_B (v_op (v_var rfl) (v_var rfl) (o_ninDR (k := family5) (l := v3.2) (g0 rfl))))) fun _ => (c_B (tj_V (v_var rfl) (tj_C (tj_V (v_var rfl) (tj_V (v_var rfl) (c_ixDR (k := family5) (l := v3.2) (g0 rfl)))) fun x13 _ => (tj_ok (ofo o_lt)))))) (fun _ _ p => ⟨pS0, p⟩) (fun _ => (ts_setD (v_var rfl) (v_var rfl) (v_var rfl) (g0 rfl) (z0 rfl) (ts_last (ts_asgV v_c (ts_nx rfl))))) fun _ => (ts_nx rfl)))) fun _ => (ts_nx rfl)))))) fun v3 _ => (ts_nx rfl))))) fun v2 _ => (ts_nx ⟨rfl, rfl⟩))))) (fun v1 _ => (pe_same (pe_ref (fz_dct (κ := Name) (α := Int) (l := v1.1) (by simp) (g0 rfl)) (pe_val (Pu.pu (v1.2 : Bool)) (pe_same (pe_same (pe_same (pe_same (pe_same pe_nil))))))))) (fun _ _ => pS0)) fun v1 _ => (ts_retV (v_var rfl) (rp_v popS_self)))

noncomputable def T_Grammar_d_initd_ (fields : (FV.Sq Name)) (kinds : (FV.Sq (T3 Name Name (FV.Sq Name)))) (root : (Option Name)) : RS Unit GrammarV :=
  ((((lcM kinds.l (fun name1 => name1.a) ()).bind fun x2 _ => (RS.ok (Vt.mk x2) ())).bindS fun kinds3 _ => ((dcT kinds.l (fun name4 => name4.a) (fun name4 => name4.b) ()).bindS fun families5 _ => ((dcT kinds.l (fun name6 => name6.a) (fun name6 => (Vt.mk name6.c.l)) ()).bindS fun children7 _ => (((lcM kinds.l (fun x8 => (x8.c.l.length : Int)) ()).bind fun x9 _ => ((T_Grammar_check_names (Vt.mk fields.l) kinds3 x9).at ())).bindS fun _ _ => ((forT (fun (kind12 : Name) (v11 : (FV.Vt Name)) _ => (((lookT families5.l kind12 ()).bind fun x13 _ => (RS.ok (!decide (x13 ∈ v11.l)) ())).bindS fun k16 _ => if k16 = true then (((lookT families5.l kind12 ()).bind fun x14 _ => (vtT (v11.l ++ [x14]) ())).bindS fun families15 _ => (.nx families15 ())) else (.nx v11 ()))) kinds3.l (⟨[]⟩ : (FV.Vt Name)) ()).andThen fun (v11 : (FV.Vt Name)) _ => ((match root with | none => (ixT v11.l (0 : Int) ()) | some root17 => (RS.ok root17 ())).bindS fun root18 _ => (((T_Grammar_check_families kinds3 children7 v11 root18).at ()).bindS fun _ _ => (((T_Grammar_least_sizes kinds3 families5 children7).at ()).bindS fun sizes20 _ => (if (decide ((sizes20.l.length : Int) < (v11.l.length : Int))) = true then (.exc 12 [(37, en (N_finite : Name))] ()) else (.nx (⟨(Vt.mk fields.l), kinds3, families5, children7, v11, root18, sizes20⟩ : GrammarV) ())))))))))) : TSt Unit GrammarV Unit Unit).mk

theorem ok_Grammar_d_initd_ {st : DSto} {fields : (FV.Sq Name)} {kinds : (FV.Sq (T3 Name Name (FV.Sq Name)))} {root : (Option Name)} : TJ en (fun _ => st) (mkObjV 1 (bodyF 4 9 den_Grammar_d_initd_) [en fields, en kinds, en root] st) (T_Grammar_d_initd_ fields kinds root) := by
  unfold T_Grammar_d_initd_
  exact tf_mkV (F := fun v : GrammarV => [(1, en v.fields), (2, en v.kinds), (3, en v.familyOf), (4, en v.childrenOf), (5, en v.families), (6, en v.root), (7, en v.sizes)]) rfl tp0 (fun _ => rfl) rfl (ts_setF (v_blt (va_cons (v_var rfl) va_nil) (b_tupleS (l := fields))) (v_var rfl) (g0 rfl) rfl (z0 rfl) (ts_setFC (S := fun _ => (st ++ [DObj.ins 1 [(1, en ((Vt.mk fields.l) : (FV.Vt Name)))]])) (S' := fun (kinds3 : (FV.Vt Name)) _ => (st ++ [DObj.ins 1 [(1, en ((Vt.mk fields.l) : (FV.Vt Name))), (2, en (kinds3 : (FV.Vt Name)))]])) (tk_C (c_lcM (h := en) (i_sq (v_var rfl)) rfl (fun _ => rfl) fun name1 => (v_var rfl)) fun x2 _ => (tk_nil (tj_ok (ofo b_tuple)))) (fun _ _ p => ⟨⟨_, rfl⟩, p⟩) (fun _ => (v_var rfl)) (fun _ => (g0 rfl)) rfl (fun _ _ => (z0 rfl)) fun kinds3 _ => (ts_setFC (S := fun _ => (st ++ [DObj.ins 1 [(1, en ((Vt.mk fields.l) : (FV.Vt Name))), (2, en (kinds3 : (FV.Vt Name)))]])) (S' := fun (families5 : (FV.Dc Name Name)) _ => (st ++ [DObj.ins 1 [(1, en ((Vt.mk fields.l) : (FV.Vt Name))), (2, en (kinds3 : (FV.Vt Name))), (3, en (families5 : (FV.Dc Name Name)))]])) (c_dc (i_sq (v_var rfl)) rfl (fun _ => rfl) (fun name4 => (v_var rfl)) fun name4 => (v_var rfl)) (fun _ _ p => ⟨⟨_, rfl⟩, p⟩) (fun _ => (v_var rfl)) (fun _ => (g0 rfl)) rfl (fun _ _ => (z0 rfl)) fun families5 _ => (ts_setFC (S := fun _ => (st ++ [DObj.ins 1 [(1, en ((Vt.mk fields.l) : (FV.Vt Name))), (2, en (kinds3 : (FV.Vt Name))), (3, en (families5 : (FV.Dc Name Name)))]])) (S' := fun (children7 : (FV.Dc Name (FV.Vt Name))) _ => (st ++ [DObj.ins 1 [(1, en ((Vt.mk fields.l) : (FV.Vt Name))), (2, en (kinds3 : (FV.Vt Name))), (3, en (families5 : (FV.Dc Name Name))), (4, en (children7 : (FV.Dc Name (FV.Vt Name))))]])) (c_dc (i_sq (v_var rfl)) rfl (fun _ => rfl) (fun name6 => (v_var rfl)) fun name6 => (v_blt (va_cons (v_var rfl) va_nil) (b_tupleS (l := name6.c)))) (fun _ _ p => ⟨⟨_, rfl⟩, p⟩) (fun _ => (v_var rfl)) (fun _ => (g0 rfl)) rfl (fun _ _ => (z0 rfl)) fun children7 _ => (ts_exprC (S := fun _ => (st ++ [DObj.ins 1 [(1, en ((Vt.mk fields.l) : (FV.Vt Name))), (2, en (kinds3 : (FV.Vt Name))), (3, en (families5 : (FV.Dc Name Name))), (4, en (children7 : (FV.Dc Name (FV.Vt Name))))]])) (c_methK (v_var rfl) (insR (g0 rfl)) (tk_C (c_lcM (h := en) (i_sq (v_var rfl)) rfl (fun _ => rfl) fun x8 => (v_blt (va_cons (v_var rfl) va_nil) (b_lenS (l := x8.c)))) fun x9 _ => (tk_nil (tj_at (ok_Grammar_check_names (st := (st ++ [DObj.ins 1 [(1, en ((Vt.mk fields.l) : (FV.Vt Name))), (2, en (kinds3 : (FV.Vt Name))), (3, en (families5 : (FV.Dc Name Name))), (4, en (children7 : (FV.Dc Name (FV.Vt Name))))]])) (x_self := (D.ref st.length)) (fs_self := [(1, en ((Vt.mk fields.l) : (FV.Vt Name))), (2, en (kinds3 : (FV.Vt Name))), (3, en (families5 : (FV.Dc Name Name))), (4, en (children7 : (FV.Dc Name (FV.Vt Name))))]) (h_x_self := (insR (g0 rfl))) (g_self_fields := rfl) (g_self_kinds := rfl) (widths := x9)))))) (fun _ _ p => ⟨⟨_, rfl⟩, p⟩) fun _ _ => (ts_setF (v_tup va_nil) (v_var rfl) (g0 rfl) rfl (z0 rfl) (ts_seq (E := fun v11 : (FV.Vt Name) => [some (D.ref st.length), some (en (fields : (FV.Sq Name))), some (en (kinds : (FV.Sq (T3 Name Name (FV.Sq Name))))), some (en (root : (Option Name))), none, none, none, none, none]) (S₁ := fun (v11 : (FV.Vt Name)) _ => (st ++ [DObj.ins 1 [(1, en ((Vt.mk fields.l) : (FV.Vt Name))), (2, en (kinds3 : (FV.Vt Name))), (3, en (families5 : (FV.Dc Name Name))), (4, en (children7 : (FV.Dc Name (FV.Vt Name)))), (5, en (v11 : (FV.Vt Name)))]])) (ts_iterV (i_tup (v_fld (v_var rfl) (f_of (insR (g0 rfl)) rfl))) (ts_for (f := en) (xs := kinds3.l) (v := ((⟨[]⟩ : (FV.Vt Name)) : (FV.Vt Name))) (s := ()) (E := fun v11 : (FV.Vt Name) => [some (D.ref st.length), some (en (fields : (FV.Sq Name))), some (en (kinds : (FV.Sq (T3 Name Name (FV.Sq Name))))), some (en (root : (Option Name))), none, none, none, none, none]) (S₁ := fun (v11 : (FV.Vt Name)) _ => (st ++ [DObj.ins 1 [(1, en ((Vt.mk fields.l) : (FV.Vt Name))), (2, en (kinds3 : (FV.Vt Name))), (3, en (families5 : (FV.Dc Name Name))), (4, en (children7 : (FV.Dc Name (FV.Vt Name)))), (5, en (v11 : (FV.Vt Name)))]])) (E1 := fun (kind12 : Name) (v11 : (FV.Vt Name)) => [some (D.ref st.length), some (en (fields : (FV.Sq Name))), some (en (kinds : (FV.Sq (T3 Name Name (FV.Sq Name))))), some (en (root : (Option Name))), some (en (kind12 : Name)), none, none, none, none]) (fun _ _ => rfl) (fun _ _ _ => rfl) fun kind12 v11 _ => (ts_ifC (S := fun _ => (st ++ [DObj.ins 1 [(1, en ((Vt.mk fields.l) : (FV.Vt Name))), (2, en (kinds3 : (FV.Vt Name))), (3, en (families5 : (FV.Dc Name Name))), (4, en (children7 : (FV.Dc Name (FV.Vt Name)))), (5, en (v11 : (FV.Vt Name)))]])) (c_B (tj_C (tj_V (v_fld (v_var rfl) (f_of (insR (g0 rfl)) rfl)) (tj_V (v_var rfl) (c_ixD (l := families5) (k := kind12)))) fun x13 _ => (tj_V (v_fld (v_var rfl) (f_of (insR (g0 rfl)) rfl)) (tj_ok (ofo (o_ninT (a := x13) (l := v11))))))) (fun _ _ p => ⟨⟨_, rfl⟩, p⟩) (fun _ => (ts_last (ts_setFC (S := fun _ => (st ++ [DObj.ins 1 [(1, en ((Vt.mk fields.l) : (FV.Vt Name))), (2, en (kinds3 : (FV.Vt Name))), (3, en (families5 : (FV.Dc Name Name))), (4, en (children7 : (FV.Dc Name (FV.Vt Name)))), (5, en (v11 : (FV.Vt Name)))]])) (S' := fun (families15 : (FV.Vt Name)) _ => (st ++ [DObj.ins 1 [(1, en ((Vt.mk fields.l) : (FV.Vt Name))), (2, en (kinds3 : (FV.Vt Name))), (3, en (families5 : (FV.Dc Name Name))), (4, en (children7 : (FV.Dc Name (FV.Vt Name)))), (5, en (families15 : (FV.Vt Name)))]])) (tk_star (v_fld (v_var rfl) (f_of (insR (g0 rfl)) rfl)) rfl (tk_C (tj_V (v_fld (v_var rfl) (f_of (insR (g0 rfl)) rfl)) (tj_V (v_var rfl) (c_ixD (l := families5) (k := kind12)))) fun x14 _ => (tk_nil (mk_tupS (by simp))))) (fun _ _ p => ⟨⟨_, rfl⟩, p⟩) (fun _ => (v_var rfl)) (fun _ => (g0 rfl)) rfl (fun _ _ => (z0 rfl)) fun families15 _ => (ts_nx rfl)))) fun _ => (ts_nx rfl)))) fun v11 _ => (ts_setFC (S := fun _ => (st ++ [DObj.ins 1 [(1, en ((Vt.mk fields.l) : (FV.Vt Name))), (2, en (kinds3 : (FV.Vt Name))), (3, en (families5 : (FV.Dc Name Name))), (4, en (children7 : (FV.Dc Name (FV.Vt Name)))), (5, en (v11 : (FV.Vt Name)))]])) (S' := fun (root18 : Name) _ => (st ++ [DObj.ins 1 [(1, en ((Vt.mk fields.l) : (FV.Vt Name))), (2, en (kinds3 : (FV.Vt Name))), (3, en (families5 : (FV.Dc Name Name))), (4, en (children7 : (FV.Dc Name (FV.Vt Name)))), (5, en (v11 : (FV.Vt Name))), (6, en (root18 : Name))]])) (match root with | none => c_ifT (v_B (v_op (v_var rfl) v_c is_none)) (tj_V (v_fld (v_var rfl) (f_of (insR (g0 rfl)) rfl)) (tj_V v_c (c_ixTE (l := v11) (i := (0 : Int))))) | some root17 => c_ifF (v_B (v_op (v_var rfl) v_c (is_some (by intro z; cases z)))) (tj_ok (v_var rfl))) (fun _ _ p => ⟨⟨_, rfl⟩, p⟩) (fun _ => (v_var rfl)) (fun _ => (g0 rfl)) rfl (fun _ _ => (z0 rfl)) fun root18 _ => (ts_exprC (S := fun _ => (st ++ [DObj.ins 1 [(1, en ((Vt.mk fields.l) : (FV.Vt Name))), (2, en (kinds3 : (FV.Vt Name))), (3, en (families5 : (FV.Dc Name Name))), (4, en (children7 : (FV.Dc Name (FV.Vt Name)))), (5, en (v11 : (FV.Vt Name))), (6, en (root18 : Name))]])) (c_meth (v_var rfl) (insR (g0 rfl)) va_nil (tj_at (ok_Grammar_check_families (st := (st ++ [DObj.ins 1 [(1, en ((Vt.mk fields.l) : (FV.Vt Name))), (2, en (kinds3 : (FV.Vt Name))), (3, en (families5 : (FV.Dc Name Name))), (4, en (children7 : (FV.Dc Name (FV.Vt Name)))), (5, en (v11 : (FV.Vt Name))), (6, en (root18 : Name))]])) (x_self := (D.ref st.length)) (fs_self := [(1, en ((Vt.mk fields.l) : (FV.Vt Name))), (2, en (kinds3 : (FV.Vt Name))), (3, en (families5 : (FV.Dc Name Name))), (4, en (children7 : (FV.Dc Name (FV.Vt Name)))), (5, en (v11 : (FV.Vt Name))), (6, en (root18 : Name))]) (h_x_self := (insR (g0 rfl))) (g_self_kinds := rfl) (g_self_children := rfl) (g_self_families := rfl) (g_self_root := rfl)))) (fun _ _ p => ⟨⟨_, rfl⟩, p⟩) fun _ _ => (ts_setFC (S := fun _ => (st ++ [DObj.ins 1 [(1, en ((Vt.mk fields.l) : (FV.Vt Name))), (2, en (kinds3 : (FV.Vt Name))), (3, en (families5 : (FV.Dc Name Name))), (4, en (children7 : (FV.Dc Name (FV.Vt Name)))), (5, en (v11 : (FV.Vt Name))), (6, en (root18 : Name))]])) (S' := fun (sizes20 : (FV.Dc Name Int)) _ => (st ++ [DObj.ins 1 [(1, en ((Vt.mk fields.l) : (FV.Vt Name))), (2, en (kinds3 : (FV.Vt Name))), (3, en (families5 : (FV.Dc Name Name))), (4, en (children7 : (FV.Dc Name (FV.Vt Name)))), (5, en (v11 : (FV.Vt Name))), (6, en (root18 : Name)), (7, en (sizes20 : (FV.Dc Name Int)))]])) (c_meth (v_var rfl) (insR (g0 rfl)) va_nil (tj_at (ok_Grammar_least_sizes (st := (st ++ [DObj.ins 1 [(1, en ((Vt.mk fields.l) : (FV.Vt Name))), (2, en (kinds3 : (FV.Vt Name))), (3, en (families5 : (FV.Dc Name Name))), (4, en (children7 : (FV.Dc Name (FV.Vt Name)))), (5, en (v11 : (FV.Vt Name))), (6, en (root18 : Name))]])) (x_self := (D.ref st.length)) (fs_self := [(1, en ((Vt.mk fields.l) : (FV.Vt Name))), (2, en (kinds3 : (FV.Vt Name))), (3, en (families5 : (FV.Dc Name Name))), (4, en (children7 : (FV.Dc Name (FV.Vt Name)))), (5, en (v11 : (FV.Vt Name))), (6, en (root18 : Name))]) (h_x_self := (insR (g0 rfl))) (g_self_kinds := rfl) (g_self_families := rfl) (g_self_children := rfl)))) (fun _ _ p => ⟨⟨_, rfl⟩, p⟩) (fun _ => (v_var rfl)) (fun _ => (g0 rfl)) rfl (fun _ _ => (z0 rfl)) fun sizes20 _ => (ts_last (ts_ifX (v_B (v_op (v_blt (va_cons (v_fld (v_var rfl) (f_of (insR (g0 rfl)) rfl)) va_nil) (b_lenD (l := sizes20))) (v_blt (va_cons (v_fld (v_var rfl) (f_of (insR (g0 rfl)) rfl)) va_nil) (b_lenTE (l := v11))) o_lt)) (fun _ => (ts_raise (va_cons v_c va_nil) rfl rfl (okm N_finite.sz) rfl ⟨⟨_, rfl⟩, (pf_cons (Pu.pu (N_finite : Name)) pf_nil)⟩)) fun _ => (ts_nx rfl))))))))))))) () rfl fun _ => rfl

noncomputable def T_law_due (walks : (List Name)) (names_here : (FV.Sq Name)) : RS Unit Dat :=
  ((if (decide ((6 : Int) < (names_here.l.length : Int))) = true then (.rt (Dat.of (T3.mk N_limit N_row true)) ()) else ((forT (fun (name2 : Name) (v1 : Unit) _ => (if (!decide (name2 ∈ walks)) = true then (.rt (Dat.of (T3.mk N_unknown name2 true)) ()) else (.nx () ()))) names_here.l () ()).andThen fun (v1 : Unit) _ => (.rt (Dat.of (T2.mk N_row (Vt.mk names_here.l))) ()))) : TSt Unit Unit Unit Dat).fin

theorem ok_law_due {st : DSto} {walks : (List Name)} {names_here : (FV.Sq Name)}  : TJ en (fun _ => st) (G_law_due [en walks, en names_here] st) (T_law_due walks names_here) := by
  unfold G_law_due T_law_due
  exact tf_F (E := [some (en (walks : (List Name))), some (en (names_here : (FV.Sq Name))), none]) rfl rfl (ts_ifX (v_B (v_op (v_blt (va_cons (v_var rfl) va_nil) (b_lenS (l := names_here))) v_c o_gt)) (fun _ => (ts_retV (v_tup (va_cons v_c (va_cons v_c (va_cons v_c va_nil)))) ⟨rfl, rfl⟩)) fun _ => (ts_seq (E := fun v1 : Unit => [some (en (walks : (List Name))), some (en (names_here : (FV.Sq Name))), none]) (S₁ := fun (v1 : Unit) _ => st) (ts_iterV (i_sq (v_var rfl)) (ts_for (f := en) (xs := names_here.l) (v := (() : Unit)) (s := ()) (E := fun v1 : Unit => [some (en (walks : (List Name))), some (en (names_here : (FV.Sq Name))), none]) (S₁ := fun (v1 : Unit) _ => st) (E1 := fun (name2 : Name) (v1 : Unit) => [some (en (walks : (List Name))), some (en (names_here : (FV.Sq Name))), some (en (name2 : Name))]) (fun _ _ => rfl) (fun _ _ _ => rfl) fun name2 v1 _ => (ts_last (ts_ifX (v_B (v_op (v_var rfl) (v_var rfl) (o_nin (a := name2) (l := walks)))) (fun _ => (ts_retV (v_tup (va_cons v_c (va_cons (v_var rfl) (va_cons v_c va_nil)))) ⟨rfl, rfl⟩)) fun _ => (ts_nx rfl))))) fun v1 _ => (ts_retV (v_tup (va_cons v_c (va_cons (v_blt (va_cons (v_var rfl) va_nil) (b_tupleS (l := names_here))) va_nil))) ⟨rfl, rfl⟩)))

noncomputable def T_Program_row (self_names : (FV.Vt Name)) (names : (FV.Sq Name)) : RS Unit (FV.Vt Name) :=
  ((if (decide ((6 : Int) < (names.l.length : Int))) = true then (.exc 10 [(35, en (N_row : Name))] ()) else ((forT (fun (name2 : Name) (v1 : Unit) _ => (if (!decide (name2 ∈ self_names.l)) = true then (.exc 11 [(36, en (name2 : Name))] ()) else (.nx () ()))) names.l () ()).andThen fun (v1 : Unit) _ => (.rt (Vt.mk names.l) ()))) : TSt Unit Unit Unit (FV.Vt Name)).fin

theorem ok_Program_row {st : DSto} {self_names : (FV.Vt Name)} {names : (FV.Sq Name)} {x_self : D} {fs_self : List (Nat × D)} (h_x_self : insD x_self st = some (2, fs_self)) (g_self_names : getN 9 fs_self = some (en self_names)) : TJ en (fun _ => st) (G_Program_row [x_self, en names] st) (T_Program_row self_names names) := by
  unfold G_Program_row T_Program_row
  exact tf_F (E := [some x_self, some (en (names : (FV.Sq Name))), none]) rfl rfl (ts_ifX (v_B (v_op (v_blt (va_cons (v_var rfl) va_nil) (b_lenS (l := names))) v_c o_gt)) (fun _ => (ts_raise (va_cons v_c va_nil) rfl rfl (okm N_row.sz) rfl ⟨rfl, (pf_cons (Pu.pu (N_row : Name)) pf_nil)⟩)) fun _ => (ts_seq (E := fun v1 : Unit => [some x_self, some (en (names : (FV.Sq Name))), none]) (S₁ := fun (v1 : Unit) _ => st) (ts_iterV (i_sq (v_var rfl)) (ts_for (f := en) (xs := names.l) (v := (() : Unit)) (s := ()) (E := fun v1 : Unit => [some x_self, some (en (names : (FV.Sq Name))), none]) (S₁ := fun (v1 : Unit) _ => st) (E1 := fun (name2 : Name) (v1 : Unit) => [some x_self, some (en (names : (FV.Sq Name))), some (en (name2 : Name))]) (fun _ _ => rfl) (fun _ _ _ => rfl) fun name2 v1 _ => (ts_last (ts_ifX (v_B (v_op (v_var rfl) (v_fld (v_var rfl) (f_of h_x_self g_self_names)) (o_ninT (a := name2) (l := self_names)))) (fun _ => (ts_raise (va_cons (v_var rfl) va_nil) rfl rfl (okm name2.sz) rfl ⟨rfl, (pf_cons (Pu.pu (name2 : Name)) pf_nil)⟩)) fun _ => (ts_nx rfl))))) fun v1 _ => (ts_retV (v_blt (va_cons (v_var rfl) va_nil) (b_tupleS (l := names))) ⟨rfl, rfl⟩)))

noncomputable def T_law_told (program_names : (FV.Vt Name)) (names_here : (FV.Sq Name)) : RS Unit Dat :=
  ((((((T_Program_row program_names names_here).at ()).bind fun x1 _ => (RS.ok (T2.mk N_row x1) ())).bindS fun x2 _ => .rt (Dat.of x2) ()).catch fun c3 fs4 _ => (hdT (subD [(10, true), (11, false)] c3) (((exfT Name 35 fs4 ()).bind fun x6 _ => (((isET [(10, true)] c3 ()).bind fun k7 _ => if k7 = true then ((isET [(10, false)] c3 ()).bind fun k s_ => RS.ok (!k) s_) else (RS.ok false ())).bind fun x8 _ => (RS.ok (T3.mk N_limit x6 x8) ()))).okOnly.bindS fun x9 _ => .rt (Dat.of x9) ()) (hdT (subD [(10, false), (11, true)] c3) (((exfT Name 36 fs4 ()).bind fun x10 _ => (((isET [(11, true)] c3 ()).bind fun k11 _ => if k11 = true then (isET [(11, true)] c3 ()) else (RS.ok false ())).bind fun x12 _ => (RS.ok (T3.mk N_unknown x10 x12) ()))).okOnly.bindS fun x13 _ => .rt (Dat.of x13) ()) (.exc c3 fs4 ())))) : TSt Unit Unit Unit Dat).fin

theorem ok_law_told {st : DSto} {program_names : (FV.Vt Name)} {names_here : (FV.Sq Name)} {x_program : D} {fs_program : List (Nat × D)} (h_x_program : insD x_program st = some (2, fs_program)) (g_program_names : getN 9 fs_program = some (en program_names)) : TJ en (fun _ => st) (G_law_told [x_program, en names_here] st) (T_law_told program_names names_here) := by
  unfold G_law_told T_law_told
  exact tf_F (E := [some x_program, some (en (names_here : (FV.Sq Name))), none]) rfl rfl (ts_try (S := fun _ => st) (th := fun c3 fs4 _ => (hdT (subD [(10, true), (11, false)] c3) (((exfT Name 35 fs4 ()).bind fun x6 _ => (((isET [(10, true)] c3 ()).bind fun k7 _ => if k7 = true then ((isET [(10, false)] c3 ()).bind fun k s_ => RS.ok (!k) s_) else (RS.ok false ())).bind fun x8 _ => (RS.ok (T3.mk N_limit x6 x8) ()))).okOnly.bindS fun x9 _ => .rt (Dat.of x9) ()) (hdT (subD [(10, false), (11, true)] c3) (((exfT Name 36 fs4 ()).bind fun x10 _ => (((isET [(11, true)] c3 ()).bind fun k11 _ => if k11 = true then (isET [(11, true)] c3 ()) else (RS.ok false ())).bind fun x12 _ => (RS.ok (T3.mk N_unknown x10 x12) ()))).okOnly.bindS fun x13 _ => .rt (Dat.of x13) ()) (.exc c3 fs4 ())))) (ts_retF (S := fun _ => st) (f := fun x2 => (Dat.of x2)) (tk_V v_c (tk_C (c_meth (v_var rfl) h_x_program (va_cons (v_var rfl) va_nil) (tj_at (ok_Program_row (st := st) (x_self := x_program) (h_x_self := h_x_program) (g_self_names := g_program_names) (names := names_here)))) fun x1 _ => (tk_nil (tj_ok (mkTupK rfl))))) (fun _ _ p => ⟨⟨rfl, rfl⟩, p⟩) fun x2 _ => ⟨rfl, rfl⟩) fun c3 fs4 _ p5 => (ts_hd (ts_su (ts_retN2 (S := fun _ => st) (f := fun x9 => (Dat.of x9)) (tk_V v_c (tk_C (c_exf (v_var rfl)) fun x6 _ => (tk_C (c_andV (c_isE (v_var rfl)) fun _ => (c_notV (c_isE (v_var rfl)))) fun x8 _ => (tk_nil (tj_ok (mkTupK rfl)))))) fun x9 _ => ⟨⟨(Dat.nx _), rfl⟩, ⟨rfl, rfl⟩⟩)) (ts_hd (ts_su (ts_retN2 (S := fun _ => st) (f := fun x13 => (Dat.of x13)) (tk_V v_c (tk_C (c_exf (v_var rfl)) fun x10 _ => (tk_C (c_andV (c_isE (v_var rfl)) fun _ => (c_isE (v_var rfl))) fun x12 _ => (tk_nil (tj_ok (mkTupK rfl)))))) fun x13 _ => ⟨⟨(Dat.nx _), rfl⟩, ⟨rfl, rfl⟩⟩)) (ts_hd0 ⟨rfl, p5⟩))))

noncomputable def T_law (s : Src) : TSt Src Unit Unit Bool :=
  ((((T_draw (6 : Int) s).bind fun x1 s2 => (RS.ok ((1 : Int) + x1) s2)).bind fun x3 s4 => (T_names x3 s4)).bindS fun walks5 s6 => (((forT (fun (name10 : Name) (v8 : List (Name × (FV.Dc Name (List Stm)))) s9 => (if v8.length < lim then (.nx (put v8 name10 (⟨[]⟩ : (FV.Dc Name (List Stm)))) s9) else .bad)) walks5 [] s6).andThen fun (v8 : List (Name × (FV.Dc Name (List Stm)))) s11 => (.nx v8 s11)).andThen fun (v7 : List (Name × (FV.Dc Name (List Stm)))) s12 => ((((T_Grammar_d_initd_ (Sq.mk false ([] : List Name)) (Sq.mk false [(T3.mk N_only N_lonely (Sq.mk false ([] : List Name)))]) (none : (Option Name))).at s12).bind fun x13 s14 => ((T_Program_d_initd_ x13 (Dc.mk v7)).at s14)).bindS fun o15 s16 => (((((T_draw (9 : Int) s16).bind fun j18 s19 => rng1 j18 s19).bindS fun l20 s21 => forT (fun (n24 : Int) (v22 : (List Name)) s23 => ((ixT [N_unknownname, N_strangewalk] (n24 % (2 : Int)) s23).bindS fun stranger25 s26 => ((((T_draw (6 : Int) s26).bind fun x27 s28 => (RS.ok (decide ((x27 : Int) = (5 : Int))) s28)).bind fun k32 s29 => if k32 = true then (RS.ok stranger25 s29) else ((T_draw ((walks5 : (List Name)).length : Int) s29).bind fun x30 s31 => (ixT walks5 x30 s31))).bindS fun y33 s34 => if (v22 : List Name).length < lim then (.nx (v22 ++ [y33]) s34) else .bad))) l20 [] s21).andThen fun (v22 : (List Name)) s35 => (.nx v22 s35)).andThen fun (v17 : (List Name)) s36 => (((T_law_due walks5 (Sq.mk false v17)).at s36).bindS fun due_here37 s38 => (((((T_law_told o15.names (Sq.mk false v17)).at s38).bind fun x39 s40 => (RS.ok (!x39.eq due_here37) s40)).bind fun k48 s41 => if k48 = true then (RS.ok true s41) else ((RS.ok (!decide ((v17 : (List Name)) = v17)) s41).bind fun k47 s44 => if k47 = true then (RS.ok true s44) else (((T_law_told o15.names (Sq.mk true (Vt.mk v17).l)).at s44).bind fun x45 s46 => (RS.ok (!x45.eq due_here37) s46)))).bindS fun k64 s49 => if k64 = true then (.rt false s49) else (((lcP v17 (fun name50 => (decide (name50 ∈ walks5))) (fun name50 => name50) s49).bind fun x51 s52 => RS.ok (cutT x51 none (some (6 : Int))) s52).bindS fun good53 s54 => (((((T_law_told o15.names (Sq.mk false good53)).at s54).bind fun x55 s56 => (RS.ok (x55.eq (Dat.of (T2.mk N_row (Vt.mk good53)))) s56)).bind fun k60 s57 => if k60 = true then (((T_Program_row o15.names (Sq.mk false ([] : List Name))).at s57).bind fun x58 s59 => (RS.ok (decide ((x58 : (FV.Vt Name)) = ⟨[]⟩)) s59)) else (RS.ok false s57)).bindS fun x62 s63 => .rt x62 s63))))))))

theorem law_of (hT : ∀ s, ∃ s', (T_law s).fin = .ok true s') (ns : List Int) (hl : ns.length ≤ 63) : ∃ st, G_law [.scr ns] [] = .ok (.bl true) st := by
  refine tl_law (t := T_law) (E := [some (D.scr ns), none, none, none, none, none, none, none, none, none, none, none]) hl rfl (fun s => ?_) hT
  unfold T_law
  exact (ts_asgC (S := fun u_ => (SS u_ [])) (tk_V (v_var rfl) (tk_C (tj_V v_c (tj_C (c_call (va_cons (v_var rfl) (va_cons v_c va_nil)) (ok_draw (m := (6 : Int)) (s := s) (r := []))) fun x1 s2 => (tj_ok (ofo o_add)))) fun x3 s4 => (tk_nil (ok_names (m := x3) (s := s4) (r := []))))) (fun _ _ p => trivial) fun walks5 s6 => (ts_seq (E := fun v7 : List (Name × (FV.Dc Name (List Stm))) => [some (D.scr ns), some (D.ref 1), some (en (walks5 : (List Name))), some (en ((Dc.mk v7) : (FV.Dc Name (FV.Dc Name (List Stm))))), none, none, none, none, none, none, none, none]) (S₁ := fun (v7 : List (Name × (FV.Dc Name (List Stm)))) u_ => (SS u_ [])) (ts_popB (E1 := fun v7 : List (Name × (FV.Dc Name (List Stm))) => [some (D.scr ns), some (D.ref 1), some (en (walks5 : (List Name))), some (D.ref 2), none, none, none, none, none, none, none, none]) (S1 := fun (v7 : List (Name × (FV.Dc Name (List Stm)))) u_ => ((SS u_ []) ++ [DObj.dct (EncK.t Name) ((v7 : List (Name × (FV.Dc Name (List Stm)))).map fun p => (en p.1, en p.2))])) (E2 := fun v7 : List (Name × (FV.Dc Name (List Stm))) => [some (D.scr ns), some (D.ref 1), some (en (walks5 : (List Name))), some (en ((Dc.mk v7) : (FV.Dc Name (FV.Dc Name (List Stm))))), none, none, none, none, none, none, none, none]) (S2 := fun (v7 : List (Name × (FV.Dc Name (List Stm)))) u_ => (SS u_ [])) (ts_newD (l0 rfl) a0 (ts_last (ts_seq (E := fun v8 : List (Name × (FV.Dc Name (List Stm))) => [some (D.scr ns), some (D.ref 1), some (en (walks5 : (List Name))), some (D.ref 2), none, none, none, none, none, none, none, none]) (S₁ := fun (v8 : List (Name × (FV.Dc Name (List Stm)))) u_ => ((SS u_ []) ++ [DObj.dct (EncK.t Name) ((v8 : List (Name × (FV.Dc Name (List Stm)))).map fun p => (en p.1, en p.2))])) (ts_iterV (i_lst (v_var rfl)) (ts_for (f := en) (xs := walks5) (v := ([] : List (Name × (FV.Dc Name (List Stm))))) (s := s6) (E := fun v8 : List (Name × (FV.Dc Name (List Stm))) => [some (D.scr ns), some (D.ref 1), some (en (walks5 : (List Name))), some (D.ref 2), none, none, none, none, none, none, none, none]) (S₁ := fun (v8 : List (Name × (FV.Dc Name (List Stm)))) u_ => ((SS u_ []) ++ [DObj.dct (EncK.t Name) ((v8 : List (Name × (FV.Dc Name (List Stm)))).map fun p => (en p.1, en p.2))])) (E1 := fun (name10 : Name) (v8 : List (Name × (FV.Dc Name (List Stm)))) => [some (D.scr ns), some (D.ref 1), some (en (walks5 : (List Name))), some (D.ref 2), some (en (name10 : Name)), none, none, none, none, none, none, none]) (fun _ _ => rfl) (fun _ _ _ => rfl) fun name10 v8 s9 => (ts_last (ts_setD rfl (v_var rfl) (v_var rfl) (g0 rfl) (z0 rfl) (ts_nx rfl))))) fun v8 s11 => (ts_nx ⟨rfl, rfl⟩)))) (fun v7 _ => (pe_same (pe_same (pe_same (pe_ref (fz_dct (κ := Name) (α := (FV.Dc Name (List Stm))) (l := v7) (by simp) (g0 rfl)) (pe_same (pe_same (pe_same (pe_same (pe_same (pe_same (pe_same (pe_same pe_nil))))))))))))) (fun _ _ => pT0)) fun v7 s12 => (ts_newO (S := fun u_ => (SS u_ [])) (n := 2) (S' := fun (o15 : ProgramV) u_ => ((SS u_ []) ++ [DObj.ins 2 [(8, en (o15.grammar : GrammarV)), (9, en (o15.names : (FV.Vt Name))), (10, en (o15.ignored : (FV.Vt Name))), (11, en (o15.bodies : (FV.Dc (T2 Name Name) (FV.Vt Stm))))]])) (mk_C (c_mkV (va_cons (v_lst va_nil) (va_cons (v_lst (va_cons (v_tup (va_cons v_c (va_cons v_c (va_cons (v_lst va_nil) va_nil)))) va_nil)) va_nil)) (tj_at (ok_Grammar_d_initd_ (fields := (Sq.mk false ([] : List Name))) (kinds := (Sq.mk false [(T3.mk N_only N_lonely (Sq.mk false ([] : List Name)))])) (root := (none : (Option Name)))))) fun x13 s14 => (mk_V (v_var rfl) (mk_nil (mj_at (ok_Program_d_initd_ (st := (SS s14 [])) (n := 2) (grammar := x13) (walks := (Dc.mk v7)) (l0 rfl)))))) (fun _ _ _ p => trivial) (fun _ _ => a0) fun o15 s16 => (ts_seq (E := fun v17 : (List Name) => [some (D.scr ns), some (D.ref 1), some (en (walks5 : (List Name))), some (en ((Dc.mk v7) : (FV.Dc Name (FV.Dc Name (List Stm))))), none, some (D.ref 2), some (en (v17 : (List Name))), none, none, none, none, none]) (S₁ := fun (v17 : (List Name)) u_ => ((SS u_ []) ++ [DObj.ins 2 [(8, en (o15.grammar : GrammarV)), (9, en (o15.names : (FV.Vt Name))), (10, en (o15.ignored : (FV.Vt Name))), (11, en (o15.bodies : (FV.Dc (T2 Name Name) (FV.Vt Stm))))]])) (ts_popB (E1 := fun v17 : (List Name) => [some (D.scr ns), some (D.ref 1), some (en (walks5 : (List Name))), some (en ((Dc.mk v7) : (FV.Dc Name (FV.Dc Name (List Stm))))), none, some (D.ref 2), some (D.ref (2 + 1)), none, none, none, none, none]) (S1 := fun (v17 : (List Name)) u_ => ((SS u_ []) ++ [DObj.ins 2 [(8, en (o15.grammar : GrammarV)), (9, en (o15.names : (FV.Vt Name))), (10, en (o15.ignored : (FV.Vt Name))), (11, en (o15.bodies : (FV.Dc (T2 Name Name) (FV.Vt Stm))))], DObj.lst ((v17 : List Name).map en)])) (E2 := fun v17 : (List Name) => [some (D.scr ns), some (D.ref 1), some (en (walks5 : (List Name))), some (en ((Dc.mk v7) : (FV.Dc Name (FV.Dc Name (List Stm))))), none, some (D.ref 2), some (en (v17 : (List Name))), none, none, none, none, none]) (S2 := fun (v17 : (List Name)) u_ => ((SS u_ []) ++ [DObj.ins 2 [(8, en (o15.grammar : GrammarV)), (9, en (o15.names : (FV.Vt Name))), (10, en (o15.ignored : (FV.Vt Name))), (11, en (o15.bodies : (FV.Dc (T2 Name Name) (FV.Vt Stm))))]])) (ts_newL (l1 rfl) a1 (ts_last (ts_seq (E := fun v22 : (List Name) => [some (D.scr ns), some (D.ref 1), some (en (walks5 : (List Name))), some (en ((Dc.mk v7) : (FV.Dc Name (FV.Dc Name (List Stm))))), none, some (D.ref 2), some (D.ref (2 + 1)), none, none, none, none, none]) (S₁ := fun (v22 : (List Name)) u_ => ((SS u_ []) ++ [DObj.ins 2 [(8, en (o15.grammar : GrammarV)), (9, en (o15.names : (FV.Vt Name))), (10, en (o15.ignored : (FV.Vt Name))), (11, en (o15.bodies : (FV.Dc (T2 Name Name) (FV.Vt Stm))))], DObj.lst ((v22 : List Name).map en)])) (ts_iterC (S := fun u_ => ((SS u_ []) ++ [DObj.ins 2 [(8, en (o15.grammar : GrammarV)), (9, en (o15.names : (FV.Vt Name))), (10, en (o15.ignored : (FV.Vt Name))), (11, en (o15.bodies : (FV.Dc (T2 Name Name) (FV.Vt Stm))))], DObj.lst (([] : List Name).map en)])) (ci_rng1C (c_call (va_cons (v_var rfl) (va_cons v_c va_nil)) (tj_app (ok_draw (m := (9 : Int)) (s := s16) (r := ([] ++ [DObj.ins 2 [(8, en (o15.grammar : GrammarV)), (9, en (o15.names : (FV.Vt Name))), (10, en (o15.ignored : (FV.Vt Name))), (11, en (o15.bodies : (FV.Dc (T2 Name Name) (FV.Vt Stm))))], DObj.lst (([] : List Name).map en)])))))) (fun _ _ p => trivial) fun l20 s21 => (ts_for (f := en) (xs := l20) (v := ([] : (List Name))) (s := s21) (E := fun v22 : (List Name) => [some (D.scr ns), some (D.ref 1), some (en (walks5 : (List Name))), some (en ((Dc.mk v7) : (FV.Dc Name (FV.Dc Name (List Stm))))), none, some (D.ref 2), some (D.ref (2 + 1)), none, none, none, none, none]) (S₁ := fun (v22 : (List Name)) u_ => ((SS u_ []) ++ [DObj.ins 2 [(8, en (o15.grammar : GrammarV)), (9, en (o15.names : (FV.Vt Name))), (10, en (o15.ignored : (FV.Vt Name))), (11, en (o15.bodies : (FV.Dc (T2 Name Name) (FV.Vt Stm))))], DObj.lst ((v22 : List Name).map en)])) (E1 := fun (n24 : Int) (v22 : (List Name)) => [some (D.scr ns), some (D.ref 1), some (en (walks5 : (List Name))), some (en ((Dc.mk v7) : (FV.Dc Name (FV.Dc Name (List Stm))))), none, some (D.ref 2), some (D.ref (2 + 1)), some (en (n24 : Int)), none, none, none, none]) (fun _ _ => rfl) (fun _ _ _ => rfl) fun n24 v22 s23 => (ts_asgC (S := fun u_ => ((SS u_ []) ++ [DObj.ins 2 [(8, en (o15.grammar : GrammarV)), (9, en (o15.names : (FV.Vt Name))), (10, en (o15.ignored : (FV.Vt Name))), (11, en (o15.bodies : (FV.Dc (T2 Name Name) (FV.Vt Stm))))], DObj.lst ((v22 : List Name).map en)])) (tj_V (v_lst (va_cons v_c (va_cons v_c va_nil))) (tj_V (v_op (v_blt (va_cons (v_var rfl) va_nil) b_int) v_c (o_mod (by decide))) (c_ixE (l := [N_unknownname, N_strangewalk]) (i := (n24 % (2 : Int)))))) (fun _ _ p => trivial) fun stranger25 s26 => (ts_last (ts_appC (f := en) (S := fun u_ => ((SS u_ []) ++ [DObj.ins 2 [(8, en (o15.grammar : GrammarV)), (9, en (o15.names : (FV.Vt Name))), (10, en (o15.ignored : (FV.Vt Name))), (11, en (o15.bodies : (FV.Dc (T2 Name Name) (FV.Vt Stm))))], DObj.lst ((v22 : List Name).map en)])) (S' := fun (y33 : Name) u_ => ((SS u_ []) ++ [DObj.ins 2 [(8, en (o15.grammar : GrammarV)), (9, en (o15.names : (FV.Vt Name))), (10, en (o15.ignored : (FV.Vt Name))), (11, en (o15.bodies : (FV.Dc (T2 Name Name) (FV.Vt Stm))))], DObj.lst (((v22 ++ [y33]) : List Name).map en)])) (v_var rfl) (fun _ => (g1 rfl)) (c_if (c_B (tj_C (c_call (va_cons (v_var rfl) (va_cons v_c va_nil)) (tj_app (ok_draw (m := (6 : Int)) (s := s26) (r := ([] ++ [DObj.ins 2 [(8, en (o15.grammar : GrammarV)), (9, en (o15.names : (FV.Vt Name))), (10, en (o15.ignored : (FV.Vt Name))), (11, en (o15.bodies : (FV.Dc (T2 Name Name) (FV.Vt Stm))))], DObj.lst ((v22 : List Name).map en)]))))) fun x27 s28 => (tj_V v_c (tj_ok (ofo (o_eq (a := (x27 : Int)) (b := (5 : Int)))))))) (fun s29 => (tj_ok (v_var rfl))) fun s29 => (tj_V (v_var rfl) (tj_C (c_call (va_cons (v_var rfl) (va_cons (v_blt (va_cons (v_var rfl) va_nil) (b_lenE (l := walks5))) va_nil)) (tj_app (ok_draw (m := ((walks5 : (List Name)).length : Int)) (s := s29) (r := ([] ++ [DObj.ins 2 [(8, en (o15.grammar : GrammarV)), (9, en (o15.names : (FV.Vt Name))), (10, en (o15.ignored : (FV.Vt Name))), (11, en (o15.bodies : (FV.Dc (T2 Name Name) (FV.Vt Stm))))], DObj.lst ((v22 : List Name).map en)]))))) fun x30 s31 => (c_ixE (l := walks5) (i := x30))))) (fun _ _ p => trivial) (fun _ _ => (z1 rfl)) fun y33 s34 => (ts_nx rfl)))))) fun v22 s35 => (ts_nx ⟨rfl, rfl⟩)))) (fun v17 _ => (pe_same (pe_same (pe_same (pe_same (pe_same (pe_same (pe_ref (fz_lst (l := (v17 : List Name)) (by simp) (g1 rfl)) (pe_same (pe_same (pe_same (pe_same (pe_same pe_nil))))))))))))) (fun _ _ => pT1)) fun v17 s36 => (ts_asgV (v_blt (va_cons (v_var rfl) va_nil) b_list) (ts_asgC (S := fun u_ => ((SS u_ []) ++ [DObj.ins 2 [(8, en (o15.grammar : GrammarV)), (9, en (o15.names : (FV.Vt Name))), (10, en (o15.ignored : (FV.Vt Name))), (11, en (o15.bodies : (FV.Dc (T2 Name Name) (FV.Vt Stm))))]])) (c_call (va_cons (v_var rfl) (va_cons (v_var rfl) va_nil)) (tj_at (ok_law_due (walks := walks5) (names_here := (Sq.mk false v17))))) (fun _ _ p => trivial) fun due_here37 s38 => (ts_ifXC (S := fun u_ => ((SS u_ []) ++ [DObj.ins 2 [(8, en (o15.grammar : GrammarV)), (9, en (o15.names : (FV.Vt Name))), (10, en (o15.ignored : (FV.Vt Name))), (11, en (o15.bodies : (FV.Dc (T2 Name Name) (FV.Vt Stm))))]])) (c_or (c_B (tj_C (c_call (va_cons (v_var rfl) (va_cons (v_var rfl) va_nil)) (tj_at (ok_law_told (st := ((SS s38 []) ++ [DObj.ins 2 [(8, en (o15.grammar : GrammarV)), (9, en (o15.names : (FV.Vt Name))), (10, en (o15.ignored : (FV.Vt Name))), (11, en (o15.bodies : (FV.Dc (T2 Name Name) (FV.Vt Stm))))]])) (x_program := (D.ref 2)) (fs_program := [(8, en (o15.grammar : GrammarV)), (9, en (o15.names : (FV.Vt Name))), (10, en (o15.ignored : (FV.Vt Name))), (11, en (o15.bodies : (FV.Dc (T2 Name Name) (FV.Vt Stm))))]) (h_x_program := (insR (g0 rfl))) (g_program_names := rfl) (names_here := (Sq.mk false v17))))) fun x39 s40 => (tj_V (v_var rfl) (tj_ok (ofo (o_neX (a := x39) (b := due_here37))))))) fun s41 => (c_or (tj_ok (v_B (v_op (v_var rfl) (v_var rfl) (o_ne (a := (v17 : (List Name))) (b := v17))))) fun s44 => (c_B (tj_C (c_call (va_cons (v_var rfl) (va_cons (v_blt (va_cons (v_var rfl) va_nil) b_tuple) va_nil)) (tj_at (ok_law_told (st := ((SS s44 []) ++ [DObj.ins 2 [(8, en (o15.grammar : GrammarV)), (9, en (o15.names : (FV.Vt Name))), (10, en (o15.ignored : (FV.Vt Name))), (11, en (o15.bodies : (FV.Dc (T2 Name Name) (FV.Vt Stm))))]])) (x_program := (D.ref 2)) (fs_program := [(8, en (o15.grammar : GrammarV)), (9, en (o15.names : (FV.Vt Name))), (10, en (o15.ignored : (FV.Vt Name))), (11, en (o15.bodies : (FV.Dc (T2 Name Name) (FV.Vt Stm))))]) (h_x_program := (insR (g0 rfl))) (g_program_names := rfl) (names_here := (Sq.mk true (Vt.mk v17).l))))) fun x45 s46 => (tj_V (v_var rfl) (tj_ok (ofo (o_neX (a := x45) (b := due_here37))))))))) (fun _ _ p => trivial) (fun s49 => (ts_retV v_c rfl)) fun s49 => (ts_asgC (S := fun u_ => ((SS u_ []) ++ [DObj.ins 2 [(8, en (o15.grammar : GrammarV)), (9, en (o15.names : (FV.Vt Name))), (10, en (o15.ignored : (FV.Vt Name))), (11, en (o15.bodies : (FV.Dc (T2 Name Name) (FV.Vt Stm))))]])) (c_slL (c_lcP (h := en) (i_lst (v_var rfl)) rfl (fun _ => rfl) (fun name50 => (v_B (v_op (v_var rfl) (v_var rfl) (o_in (a := name50) (l := walks5))))) fun name50 => (v_var rfl)) (fun s52 => p_none) fun s52 => (p_some v_c)) (fun _ _ p => trivial) fun good53 s54 => (ts_retC (S := fun u_ => ((SS u_ []) ++ [DObj.ins 2 [(8, en (o15.grammar : GrammarV)), (9, en (o15.names : (FV.Vt Name))), (10, en (o15.ignored : (FV.Vt Name))), (11, en (o15.bodies : (FV.Dc (T2 Name Name) (FV.Vt Stm))))]])) (c_andV (tj_C (c_call (va_cons (v_var rfl) (va_cons (v_var rfl) va_nil)) (tj_at (ok_law_told (st := ((SS s54 []) ++ [DObj.ins 2 [(8, en (o15.grammar : GrammarV)), (9, en (o15.names : (FV.Vt Name))), (10, en (o15.ignored : (FV.Vt Name))), (11, en (o15.bodies : (FV.Dc (T2 Name Name) (FV.Vt Stm))))]])) (x_program := (D.ref 2)) (fs_program := [(8, en (o15.grammar : GrammarV)), (9, en (o15.names : (FV.Vt Name))), (10, en (o15.ignored : (FV.Vt Name))), (11, en (o15.bodies : (FV.Dc (T2 Name Name) (FV.Vt Stm))))]) (h_x_program := (insR (g0 rfl))) (g_program_names := rfl) (names_here := (Sq.mk false good53))))) fun x55 s56 => (tj_V (v_tup (va_cons v_c (va_cons (v_blt (va_cons (v_var rfl) va_nil) b_tuple) va_nil))) (tj_ok (ofo (o_eqX (a := x55) (b := (Dat.of (T2.mk N_row (Vt.mk good53))))))))) fun s57 => (tj_C (c_meth (v_var rfl) (insR (g0 rfl)) (va_cons (v_lst va_nil) va_nil) (tj_at (ok_Program_row (st := ((SS s57 []) ++ [DObj.ins 2 [(8, en (o15.grammar : GrammarV)), (9, en (o15.names : (FV.Vt Name))), (10, en (o15.ignored : (FV.Vt Name))), (11, en (o15.bodies : (FV.Dc (T2 Name Name) (FV.Vt Stm))))]])) (x_self := (D.ref 2)) (fs_self := [(8, en (o15.grammar : GrammarV)), (9, en (o15.names : (FV.Vt Name))), (10, en (o15.ignored : (FV.Vt Name))), (11, en (o15.bodies : (FV.Dc (T2 Name Name) (FV.Vt Stm))))]) (h_x_self := (insR (g0 rfl))) (g_self_names := rfl) (names := (Sq.mk false ([] : List Name)))))) fun x58 s59 => (tj_V (v_tup va_nil) (tj_ok (ofo (o_eq (a := (x58 : (FV.Vt Name))) (b := ⟨[]⟩))))))) (fun _ _ p => trivial) fun x62 s63 => rfl)))))))))
end K08

set_option Elab.async false
set_option linter.all false
set_option maxRecDepth 100000
set_option maxHeartbeats 4000000
namespace K08
open PySem PySem.Spec PyProof.Rows L2 FV Enc
theorem row_eq (ws : List Name) (q : Sq Name) : T_Program_row ⟨ws⟩ q = if 6 < q.l.length then .exc 10 [(35, en N_row)] () else match q.l.find? (fun x => !decide (x ∈ ws)) with
    | some x => .exc 11 [(36, en x)] ()
    | none => .ok ⟨q.l⟩ () := by
  unfold T_Program_row
  by_cases h : 6 < q.l.length
  · have h' : (6 : Int) < (q.l.length : Int) := by omega
    simp [h, h']
  · have h' : ¬ (6 : Int) < (q.l.length : Int) := by omega
    simp only [h, h', decide_false, Bool.false_eq_true, if_false]
    rw [forT_exc (p := fun x => !decide (x ∈ ws))]
    cases q.l.find? (fun x => !decide (x ∈ ws)) <;> rfl
theorem due_eq (ws : List Name) (q : Sq Name) : T_law_due ws q = .ok (if 6 < q.l.length then Dat.of (T3.mk N_limit N_row true) else match q.l.find? (fun x => !decide (x ∈ ws)) with
    | some x => Dat.of (T3.mk N_unknown x true)
    | none => Dat.of (T2.mk N_row (Vt.mk q.l))) () := by
  unfold T_law_due
  by_cases h : 6 < q.l.length
  · have h' : (6 : Int) < (q.l.length : Int) := by omega
    simp [h, h']
  · have h' : ¬ (6 : Int) < (q.l.length : Int) := by omega
    simp only [h, h', decide_false, Bool.false_eq_true, if_false]
    rw [forT_rt (p := fun x => !decide (x ∈ ws))]
    cases q.l.find? (fun x => !decide (x ∈ ws)) <;> rfl
theorem told_eq (ws : List Name) (q r : Sq Name) (h : q.l = r.l) : T_law_told ⟨ws⟩ q = T_law_due ws r := by
  rw [due_eq]
  unfold T_law_told
  rw [row_eq, h]
  by_cases h : 6 < r.l.length
  · simp [h, hdT, exfT, isET]
  · simp only [h, if_false]
    cases r.l.find? (fun x => !decide (x ∈ ws)) <;> simp [hdT, exfT, isET]
end K08

set_option Elab.async false
set_option linter.all false
set_option maxRecDepth 100000
set_option maxHeartbeats 1000000
namespace K08
open PySem PySem.Spec PyProof.Rows L2 FV Enc
theorem gram1 : T_Grammar_d_initd_ (Sq.mk false ([] : List Name)) (Sq.mk false [T3.mk N_only N_lonely (Sq.mk false ([] : List Name))]) none = .ok ⟨⟨[]⟩, ⟨[N_only]⟩, ⟨[(N_only, N_lonely)]⟩, ⟨[(N_only, ⟨[]⟩)]⟩, ⟨[N_lonely]⟩, N_lonely, ⟨[(N_lonely, 1)]⟩⟩ () := by
  have h1 : (lim : Nat) = 1000000 := rfl
  have e1 : T_Grammar_check_names ⟨[]⟩ ⟨[N_only]⟩ [0] = .ok () () := by
    simp [T_Grammar_check_names, lenSetT_ok, forT_cons]
  have e2 : T_Grammar_check_families ⟨[N_only]⟩ ⟨[(N_only, ⟨[]⟩)]⟩ ⟨[N_lonely]⟩ N_lonely = .ok () () := by
    simp [T_Grammar_check_families, forT_cons, lookT, look]
  have e3 : T_Grammar_least_sizes ⟨[N_only]⟩ ⟨[(N_only, N_lonely)]⟩ ⟨[(N_only, ⟨[]⟩)]⟩ = .ok ⟨[(N_lonely, 1)]⟩ () := by
    unfold T_Grammar_least_sizes
    rw [show (1000 : Nat) = 998 + 1 + 1 from rfl, whileT_succ]
    simp [h1, forT_cons, lookT, look, lcM, lcT, lcGo, put]
    rw [whileT_succ]
    simp [h1, forT_cons, lookT, look, lcM, lcT, lcGo, put]
    rw [show (998 : Nat) = 997 + 1 from rfl, whileT_succ]
    simp
  simp [h1, T_Grammar_d_initd_, lcM, dcT, put, look, e1, forT_cons, lookT, vtT, ixT, e2, e3]
theorem prog1 (g : GrammarV) (ws : List Name) (h : ws.length ≤ 6) : T_Program_d_initd_ g ⟨ws.map fun w => (w, (⟨[]⟩ : Dc Name (List Stm)))⟩ = .ok ⟨g, ⟨ws⟩, ⟨[]⟩, ⟨[]⟩⟩ () := by
  have h1 : (lim : Nat) = 1000000 := rfl
  have h2 : ¬ (6 : Int) < (ws.length : Int) := by omega
  unfold T_Program_d_initd_
  rw [keysT_ok (by simp [h1]; omega)]
  have e : (ws.map fun w => (w, (⟨[]⟩ : Dc Name (List Stm)))).map (·.1) = ws := by simp [Function.comp_def]
  simp only [RS.bind_ok, RS.bindS_ok, e, h2, decide_false, Bool.false_eq_true, if_false]
  rw [forT_skip]
  · rfl
  · intro x hx
    obtain ⟨p, hp, rfl⟩ := List.mem_map.mp hx
    obtain ⟨w, hw, rfl⟩ := List.mem_map.mp hp
    rfl
theorem law_true (s : Src) : ∃ s', (T_law s).fin = .ok true s' := by
  have h1 : (lim : Nat) = 1000000 := rfl
  unfold T_law
  obtain ⟨d, s1, e1, l1⟩ := draw_any (m := 6) s (by decide) (by decide)
  obtain ⟨ws, s2, e2, l2, nd, hw⟩ := names_any (m := 1 + d) s1 (by omega)
  rw [Int.natCast_add] at e2
  simp only [e1, RS.bind_ok, show ((1 : Int) + (d : Int)) = ((1 : Nat) : Int) + (d : Int) from rfl, e2, RS.bindS_ok]
  have f1 := forT_fold (Z := Src) (τ := Unit) (α := Bool) (s := s2) (body := fun (name10 : Name) (v8 : List (Name × (FV.Dc Name (List Stm)))) s9 => (if v8.length < lim then (TSt.nx (put v8 name10 (⟨[]⟩ : (FV.Dc Name (List Stm)))) s9) else .bad)) (fun v x => put v x (⟨[]⟩ : Dc Name (List Stm))) (fun p v => v.length ≤ p.length) ws [] [] (by simp) (by
    intro p x q v hpq hv
    have hp : p.length ≤ 6 := by
      have := congrArg List.length hpq
      simp at this
      omega
    have := put_len v x (⟨[]⟩ : Dc Name (List Stm))
    refine ⟨if_pos (by omega), ?_⟩
    simp
    omega)
  rw [f1.1, fold_put (ky := fun x : Name => x) (vl := fun _ => (⟨[]⟩ : Dc Name (List Stm))) ws [] (by simpa using nd)]
  simp only [TSt.andThen_nx, List.nil_append, gram1, RS.at_ok, RS.bind_ok, prog1 _ ws (by omega), RS.bindS_ok]
  obtain ⟨n9, s3, e3, l3⟩ := draw_any (m := 9) s2 (by decide) (by decide)
  simp only [e3, RS.bind_ok, rng1_ok (n := n9) (by omega), RS.bindS_ok]
  generalize hb : (forT _ _ _ _ : TSt Src (List Name) Unit Bool) = r
  obtain ⟨v, s4, e4, hv⟩ := forT_of hb (fun p v => v.length ≤ p.length) (Nat.le_refl _) (by
    intro p x q v s hpq hv
    have hp := pre_len hpq
    simp at hp
    obtain ⟨k, _, rfl⟩ := List.mem_map.mp (pre_mem hpq)
    obtain ⟨z, ez⟩ : ∃ z, ixT [N_unknownname, N_strangewalk] ((k : Int) % 2) s = .ok z s := by
      rw [show (k : Int) % 2 = ((k % 2 : Nat) : Int) by omega]
      exact ⟨_, ixT_lt (by simp; omega)⟩
    obtain ⟨d6, s5, e5, l5⟩ := draw_any (m := 6) s (by decide) (by decide)
    obtain ⟨dw, s6, e6, l6⟩ := draw_any (m := (ws.length : Int)) s5 (by omega) (by omega)
    have e7 : ixT ws (dw : Int) s6 = .ok ws[dw] s6 := ixT_lt (by omega)
    simp only [ez, RS.bindS_ok, e5, RS.bind_ok, e6, e7]
    by_cases q5 : (d6 : Int) = 5
    · refine ⟨v ++ [z], s5, ?_, by simp; omega⟩
      simp only [q5, decide_true, if_true, RS.bindS_ok]
      rw [if_pos (by omega)]
    · refine ⟨v ++ [ws[dw]], s6, ?_, by simp; omega⟩
      simp only [q5, decide_false, Bool.false_eq_true, if_false, RS.bindS_ok]
      rw [if_pos (by omega)])
  simp at hv
  rw [e4]
  simp only [TSt.andThen_nx, due_eq, RS.at_ok, RS.bindS_ok]
  have t1 := told_eq ws (Sq.mk false v) (Sq.mk false v) rfl
  have t2 := told_eq ws (Sq.mk true v) (Sq.mk false v) rfl
  rw [due_eq] at t1 t2
  simp only [t1, t2, RS.at_ok, RS.bind_ok, Dat.refl, Bool.not_true, Bool.false_eq_true, if_false, decide_true, RS.bindS_ok]
  rw [lcP_ok (by omega)]
  simp only [RS.bind_ok, RS.bindS_ok]
  rw [show (some (6 : Int)) = some ((6 : Nat) : Int) from rfl, cutT_take]
  generalize hg : (List.map (fun name50 : Name => name50) (List.filter (fun name50 => decide (name50 ∈ ws)) v)).take 6 = g
  have g1 : g.length ≤ 6 := by subst hg; simp; omega
  have g2 : ∀ x ∈ g, x ∈ ws := fun x hx => by
    subst hg
    have := List.mem_of_mem_take hx
    simpa using (by simpa using this : x ∈ v ∧ x ∈ ws).2
  have t3 := told_eq ws (Sq.mk false g) (Sq.mk false g) rfl
  rw [due_eq, if_neg (by simpa using g1), find_none (fun x hx => by simp [g2 x hx])] at t3
  have t4 := row_eq ws (Sq.mk false [])
  simp at t4
  simp [t3, t4, Dat.eq_same]
end K08

namespace K08
open PySem PySem.Spec PyProof.Rows L2 FV Enc
theorem law_plain (ns : List Int) (hl : ns.length ≤ 63) : ∃ st, G_law [.scr ns] [] = .ok (.bl true) st := law_of law_true ns hl
end K08

set_option Elab.async false
set_option linter.all false
set_option maxRecDepth 100000
set_option maxHeartbeats 4000000
namespace K08
open PySem PySem.Spec PyProof.Rows L2 FV
def top (i : Nat) : Stmt := PySem.Challenge.pw_fusewalks_k08_rows.main.body.getD i (.Pass ⟨0, 0, 0, 0⟩)
theorem u65 {k : Nat} {A : Around} (r : Room k A) : A.units + 65 < cLine := by have := r.un; omega
abbrev st_law_source : Stmt := top 12
theorem sc_law_source : FnScope [(PySem.Str.ofString "_law_script"), (PySem.Str.ofString "_law_cells"), (PySem.Str.ofString "_law_cell")] [(PySem.Str.ofString "_law_script")] (defScope st_law_source) := ⟨rfl, rfl, rfl, by decide +kernel, rfl, by decide +kernel, by decide +kernel⟩
theorem bx_law_source {P : Program} {w : World} {T : Tb} {mg : Str → Option Value} {base : Heap} {f : Addr} (hT : TW P w T) (m_int : mg (PySem.Str.ofString "int") = none) (m_sum : mg (PySem.Str.ofString "sum") = none) : BodyX P w T mg base 0 [(PySem.Str.ofString "_law_script"), (PySem.Str.ofString "_law_cells"), (PySem.Str.ofString "_law_cell")] (PySem.Str.ofString "_law_source") st_law_source f den_law_source := by
  intro cdv A outer s H E hr
  exact (pssx_cons (psx_setLc false 1 (own := [((PySem.Str.ofString "_law_cell"), 2)]) rfl sc_law_source.nd (pix_seq fits_body (px_slice rfl (px_var 0) pox_none (pox_some px_int))) (ok := (show BlkOk [(PySem.Str.ofString "_law_script"), (PySem.Str.ofString "_law_cells"), (PySem.Str.ofString "_law_cell")] (defScope st_law_source) _ [((PySem.Str.ofString "_law_cell"), 2)] from ⟨rfl, by decide +kernel, by decide +kernel, by decide +kernel, by decide +kernel⟩)) (by decide) (fun _ _ _ _ _ => (pgx_name 2 sc_law_source.nd)) (fun _ _ _ _ _ => ptsx_nil) (fun _ _ _ _ _ => (px_callTy (cx_int) m_int (pax_cons (px_var 2) pax_nil))))
    (pssx_one (psx_ret (px_lst (pax_cons (px_var 1) (pax_cons (px_lc true (own := [((PySem.Str.ofString "_law_cell"), 2)]) rfl sc_law_source.nd (pix_seq fits_body (px_var 1)) (ok := (show BlkOk [(PySem.Str.ofString "_law_script"), (PySem.Str.ofString "_law_cells"), (PySem.Str.ofString "_law_cell")] (defScope st_law_source) _ [((PySem.Str.ofString "_law_cell"), 2)] from ⟨rfl, by decide +kernel, by decide +kernel, by decide +kernel, by decide +kernel⟩)) (by decide) (fun _ _ _ _ _ => (pgx_name 2 sc_law_source.nd)) (fun _ _ _ _ _ => ptsx_nil) (fun _ _ _ _ _ => (px_cmp (ox_ge) (px_var 2) (px_op (ox_pow) px_int px_int)))) (pax_cons px_int (pax_cons px_int (pax_cons (px_op (ox_mod) (px_callTy (cx_int) m_int (pax_cons (px_callB (cx_sum rfl) m_sum (pax_cons (px_var 1) pax_nil)) pax_nil)) px_int) pax_nil)))))))))
abbrev st_law_draw : Stmt := top 13
theorem sc_law_draw : FnScope [(PySem.Str.ofString "_law_source_here"), (PySem.Str.ofString "_law_many"), (PySem.Str.ofString "_law_cells"), (PySem.Str.ofString "_law_at"), (PySem.Str.ofString "_law_mixed"), (PySem.Str.ofString "_law_number")] [(PySem.Str.ofString "_law_source_here"), (PySem.Str.ofString "_law_many")] (defScope st_law_draw) := ⟨rfl, rfl, rfl, by decide +kernel, rfl, by decide +kernel, by decide +kernel⟩
theorem bx_law_draw {P : Program} {w : World} {T : Tb} {mg : Str → Option Value} {base : Heap} {f : Addr} (hT : TW P w T) (m_len : mg (PySem.Str.ofString "len") = none) (m_int : mg (PySem.Str.ofString "int") = none) : BodyX P w T mg base 0 [(PySem.Str.ofString "_law_source_here"), (PySem.Str.ofString "_law_many"), (PySem.Str.ofString "_law_cells"), (PySem.Str.ofString "_law_at"), (PySem.Str.ofString "_law_mixed"), (PySem.Str.ofString "_law_number")] (PySem.Str.ofString "_law_draw") st_law_draw f den_law_draw := by
  intro cdv A outer s H E hr
  exact (pssx_cons (psx_set 2 sc_law_draw.nd (px_ix ⟨rfl, hT.1.symm, hT.2.symm⟩ (u65 hr) (px_var 0) px_int))
    (pssx_cons (psx_set 3 sc_law_draw.nd (px_ix ⟨rfl, hT.1.symm, hT.2.symm⟩ (u65 hr) (px_var 0) px_int))
    (pssx_cons (psx_if (ptx_cmp (ox_lt) (px_var 3) (px_callB (cx_len ⟨rfl, hT.1.symm, hT.2.symm⟩) m_len (pax_cons (px_var 2) pax_nil))) (pssx_cons (psx_set 5 sc_law_draw.nd (px_ix ⟨rfl, hT.1.symm, hT.2.symm⟩ (u65 hr) (px_var 2) (px_var 3)))
    (pssx_cons (psx_asg (px_op (ox_fdiv) (px_var 5) (px_var 1)) (pgx_sub (W := WN) (px_var 2) (px_var 3) (sx_set ⟨rfl, hT.1.symm, hT.2.symm⟩ (u65 hr))))
    (pssx_cons (psx_if (ptx_bool (pwx_or (ptx_not (ptx_val (px_ix ⟨rfl, hT.1.symm, hT.2.symm⟩ (u65 hr) (px_ix ⟨rfl, hT.1.symm, hT.2.symm⟩ (u65 hr) (px_var 0) px_int) (px_var 3)))) (pwx_or1 (ptx_cmp (ox_eq rfl hr.units) (px_ix ⟨rfl, hT.1.symm, hT.2.symm⟩ (u65 hr) (px_var 2) (px_var 3)) px_int)))) (pssx_one (psx_asg (px_op (ox_add rfl) (px_var 3) px_int) (pgx_sub (W := WN) (px_var 0) px_int (sx_set ⟨rfl, hT.1.symm, hT.2.symm⟩ (u65 hr))))) pssx_nil)
    (pssx_one (psx_ret (px_op (ox_mod) (px_callTy (cx_int) m_int (pax_cons (px_var 5) pax_nil)) (px_var 1))))))) pssx_nil)
    (pssx_cons (psx_if (ptx_cmp (ox_eq rfl hr.units) (px_ix ⟨rfl, hT.1.symm, hT.2.symm⟩ (u65 hr) (px_var 0) px_int) px_int) (pssx_one (psx_ret px_int)) pssx_nil)
    (pssx_cons (psx_asg (px_op (ox_add rfl) (px_ix ⟨rfl, hT.1.symm, hT.2.symm⟩ (u65 hr) (px_var 0) px_int) px_int) (pgx_sub (W := WN) (px_var 0) px_int (sx_set ⟨rfl, hT.1.symm, hT.2.symm⟩ (u65 hr))))
    (pssx_cons (psx_set 4 sc_law_draw.nd (px_op (ox_mod) (px_callTy (cx_int) m_int (pax_cons (px_op (ox_mul) (px_op (ox_add rfl) (px_ix ⟨rfl, hT.1.symm, hT.2.symm⟩ (u65 hr) (px_var 0) px_int) (px_op (ox_mul) (px_ix ⟨rfl, hT.1.symm, hT.2.symm⟩ (u65 hr) (px_var 0) px_int) px_int)) px_int) pax_nil)) px_int))
    (pssx_one (psx_ret (px_op (ox_mod) (px_op (ox_fdiv) (px_op (ox_mod) (px_callTy (cx_int) m_int (pax_cons (px_op (ox_mul) (px_var 4) (px_var 4)) pax_nil)) px_int) px_int) (px_var 1))))))))))
abbrev st_law_names : Stmt := top 14
theorem sc_law_names : FnScope [(PySem.Str.ofString "_law_source_here"), (PySem.Str.ofString "_law_count"), (PySem.Str.ofString "_law_letters"), (PySem.Str.ofString "_law_ahead"), (PySem.Str.ofString "_law_behind"), (PySem.Str.ofString "_law_uneven"), (PySem.Str.ofString "_law_first"), (PySem.Str.ofString "_law_fill"), (PySem.Str.ofString "_law_k")] [(PySem.Str.ofString "_law_source_here"), (PySem.Str.ofString "_law_count")] (defScope st_law_names) := ⟨rfl, rfl, rfl, by decide +kernel, rfl, by decide +kernel, by decide +kernel⟩
theorem bx_law_names {P : Program} {w : World} {T : Tb} {mg : Str → Option Value} {base : Heap} {f : Addr} (hT : TW P w T) (h_law_draw : FnG P w T mg base 1 (PySem.Str.ofString "_law_draw") G_law_draw) (m_range : mg (PySem.Str.ofString "range") = none) (m_int : mg (PySem.Str.ofString "int") = none) : BodyX P w T mg base 1 [(PySem.Str.ofString "_law_source_here"), (PySem.Str.ofString "_law_count"), (PySem.Str.ofString "_law_letters"), (PySem.Str.ofString "_law_ahead"), (PySem.Str.ofString "_law_behind"), (PySem.Str.ofString "_law_uneven"), (PySem.Str.ofString "_law_first"), (PySem.Str.ofString "_law_fill"), (PySem.Str.ofString "_law_k")] (PySem.Str.ofString "_law_names") st_law_names f den_law_names := by
  intro cdv A outer s H E hr
  exact (pssx_cons (psx_set 2 sc_law_names.nd px_str)
    (pssx_cons (psx_set 3 sc_law_names.nd (pxg_call fits_body h_law_draw (hr.mono (j := 1) (by decide)) (cb_plain (pax_cons (px_var 0) (pax_cons px_int pax_nil)))))
    (pssx_cons (psx_set 4 sc_law_names.nd (pxg_call fits_body h_law_draw (hr.mono (j := 1) (by decide)) (cb_plain (pax_cons (px_var 0) (pax_cons px_int pax_nil)))))
    (pssx_cons (psx_set 5 sc_law_names.nd (pxg_call fits_body h_law_draw (hr.mono (j := 1) (by decide)) (cb_plain (pax_cons (px_var 0) (pax_cons px_int pax_nil)))))
    (pssx_cons (psx_set 6 sc_law_names.nd (pxg_call fits_body h_law_draw (hr.mono (j := 1) (by decide)) (cb_plain (pax_cons (px_var 0) (pax_cons px_int pax_nil)))))
    (pssx_cons (psx_set 7 sc_law_names.nd (px_ix ⟨rfl, hT.1.symm, hT.2.symm⟩ (u65 hr) (px_var 2) (pxg_call fits_body h_law_draw (hr.mono (j := 1) (by decide)) (cb_plain (pax_cons (px_var 0) (pax_cons px_int pax_nil))))))
    (pssx_one (psx_ret (px_lc true (own := [((PySem.Str.ofString "_law_k"), 8)]) rfl sc_law_names.nd (pix_rng1 rfl m_range (px_var 1)) (ok := (show BlkOk [(PySem.Str.ofString "_law_source_here"), (PySem.Str.ofString "_law_count"), (PySem.Str.ofString "_law_letters"), (PySem.Str.ofString "_law_ahead"), (PySem.Str.ofString "_law_behind"), (PySem.Str.ofString "_law_uneven"), (PySem.Str.ofString "_law_first"), (PySem.Str.ofString "_law_fill"), (PySem.Str.ofString "_law_k")] (defScope st_law_names) _ [((PySem.Str.ofString "_law_k"), 8)] from ⟨rfl, by decide +kernel, by decide +kernel, by decide +kernel, by decide +kernel⟩)) (by decide) (fun _ _ _ _ _ => (pgx_name 8 sc_law_names.nd)) (fun _ _ _ _ _ => ptsx_nil) (fun _ _ _ _ _ => (px_op (ox_add rfl) (px_op (ox_add rfl) (px_op (ox_mul) (px_var 7) (px_var 3)) (px_ix ⟨rfl, hT.1.symm, hT.2.symm⟩ (u65 hr) (px_var 2) (px_op (ox_mod) (px_callTy (cx_int) m_int (pax_cons (px_op (ox_add rfl) (px_var 6) (px_var 8)) pax_nil)) px_int))) (px_op (ox_mul) (px_var 7) (px_op (ox_add rfl) (px_var 4) (px_op (ox_mul) (px_var 5) (px_op (ox_mod) (px_callTy (cx_int) m_int (pax_cons (px_var 8) pax_nil)) px_int)))))))))))))))
abbrev st_Program_d_initd_ : Stmt := inClass (top 8) 4
theorem sc_Program_d_initd_ : FnScope [(PySem.Str.ofString "self"), (PySem.Str.ofString "grammar"), (PySem.Str.ofString "walks"), (PySem.Str.ofString "walk"), (PySem.Str.ofString "bodies"), (PySem.Str.ofString "kind"), (PySem.Str.ofString "body")] [(PySem.Str.ofString "self"), (PySem.Str.ofString "grammar"), (PySem.Str.ofString "walks")] (defScope st_Program_d_initd_) := ⟨rfl, rfl, rfl, by decide +kernel, rfl, by decide +kernel, by decide +kernel⟩
theorem bx_Program_d_initd_ {P : Program} {w : World} {T : Tb} {mg : Str → Option Value} {base : Heap} {f : Addr} (hT : TW P w T) (na_2_8 : NaG T 2 8 (PySem.Str.ofString "grammar")) (m_list : mg (PySem.Str.ofString "list") = none) (m_tuple : mg (PySem.Str.ofString "tuple") = none) (na_2_9 : NaG T 2 9 (PySem.Str.ofString "names")) (na_2_10 : NaG T 2 10 (PySem.Str.ofString "_ignored")) (na_2_11 : NaG T 2 11 (PySem.Str.ofString "_bodies")) (ft_9 : T.FT[9]? = some (PySem.Str.ofString "names")) (m_len : mg (PySem.Str.ofString "len") = none) (cc_2_MOST_WALKS : CcG T mg (PySem.Str.ofString "Program") (PySem.Str.ofString "MOST_WALKS") 6) (xc_10 : XcG P w T mg base 1 (PySem.Str.ofString "LimitExceeded") 10 [35] (some 0)) (ft_11 : T.FT[11]? = some (PySem.Str.ofString "_bodies")) : BodyX P w T mg base 2 [(PySem.Str.ofString "self"), (PySem.Str.ofString "grammar"), (PySem.Str.ofString "walks"), (PySem.Str.ofString "walk"), (PySem.Str.ofString "bodies"), (PySem.Str.ofString "kind"), (PySem.Str.ofString "body")] (PySem.Str.ofString "Program.__init__") st_Program_d_initd_ f den_Program_d_initd_ := by
  intro cdv A outer s H E hr
  exact (pssx_cons (psxg_fld 2 8 fits_body na_2_8 (px_var 0) (px_var 1))
    (pssx_cons (psxg_fld 2 9 fits_body na_2_9 (px_var 0) (px_callTy (cx_tuple rfl) m_tuple (pax_cons (px_callTy (cx_listD rfl rfl) m_list (pax_cons (px_var 2) pax_nil)) pax_nil)))
    (pssx_cons (psxg_fld 2 10 fits_body na_2_10 (px_var 0) (px_tup pax_nil))
    (pssx_cons (psxg_fld 2 11 fits_body na_2_11 (px_var 0) (px_dctN ⟨rfl, hT.1.symm, hT.2.symm⟩))
    (pssx_cons (psx_if (ptx_cmp (ox_gt) (px_callB (cx_len ⟨rfl, hT.1.symm, hT.2.symm⟩) m_len (pax_cons (px_fld 9 fits_body ft_9 (px_var 0)) pax_nil)) (px_cconst rfl cc_2_MOST_WALKS)) (pssx_one (psx_raise rfl fits_body xc_10 (hr.mono (j := 2) (by decide)) rfl (pax_cons px_str pax_nil))) pssx_nil)
    (pssx_one (psx_for false [3, 4, 5, 6] own_body rfl (pix_items (px_var 2)) (pgx_tup rfl (pgsx_cons (pgx_name 3 sc_Program_d_initd_.nd) (pgsx_cons (pgx_name 4 sc_Program_d_initd_.nd) pgsx_nil))) (pssx_one (psx_for false [5, 6] own_body rfl (pix_items (px_var 4)) (pgx_tup rfl (pgsx_cons (pgx_name 5 sc_Program_d_initd_.nd) (pgsx_cons (pgx_name 6 sc_Program_d_initd_.nd) pgsx_nil))) (pssx_one (psx_asg px_bad (pgx_sub (W := WN) (px_fld 11 ⟨rfl, takes0⟩ ft_11 (px_var 0)) (px_tup (pax_cons (px_var 3) (pax_cons (px_var 5) pax_nil))) (sx_set ⟨rfl, hT.1.symm, hT.2.symm⟩ (u65 hr))))))))))))))
abbrev st_Grammar_check_names : Stmt := inClass (top 10) 5
theorem sc_Grammar_check_names : FnScope [(PySem.Str.ofString "self"), (PySem.Str.ofString "widths"), (PySem.Str.ofString "width")] [(PySem.Str.ofString "self"), (PySem.Str.ofString "widths")] (defScope st_Grammar_check_names) := ⟨rfl, rfl, rfl, by decide +kernel, rfl, by decide +kernel, by decide +kernel⟩
theorem bx_Grammar_check_names {P : Program} {w : World} {T : Tb} {mg : Str → Option Value} {base : Heap} {f : Addr} (hT : TW P w T) (ft_1 : T.FT[1]? = some (PySem.Str.ofString "fields")) (m_len : mg (PySem.Str.ofString "len") = none) (cc_1_MOST_FIELDS : CcG T mg (PySem.Str.ofString "Grammar") (PySem.Str.ofString "MOST_FIELDS") 6) (xc_10 : XcG P w T mg base 1 (PySem.Str.ofString "LimitExceeded") 10 [35] (some 0)) (m_set : mg (PySem.Str.ofString "set") = none) (xc_12 : XcG P w T mg base 1 (PySem.Str.ofString "BadGrammar") 12 [37] (some 0)) (ft_2 : T.FT[2]? = some (PySem.Str.ofString "kinds")) (cc_1_MOST_KINDS : CcG T mg (PySem.Str.ofString "Grammar") (PySem.Str.ofString "MOST_KINDS") 8) (cc_1_MOST_CHILDREN : CcG T mg (PySem.Str.ofString "Grammar") (PySem.Str.ofString "MOST_CHILDREN") 3) : BodyX P w T mg base 2 [(PySem.Str.ofString "self"), (PySem.Str.ofString "widths"), (PySem.Str.ofString "width")] (PySem.Str.ofString "Grammar._check_names") st_Grammar_check_names f den_Grammar_check_names := by
  intro cdv A outer s H E hr
  exact (pssx_cons (psx_if (ptx_cmp (ox_gt) (px_callB (cx_len ⟨rfl, hT.1.symm, hT.2.symm⟩) m_len (pax_cons (px_fld 1 fits_body ft_1 (px_var 0)) pax_nil)) (px_cconst rfl cc_1_MOST_FIELDS)) (pssx_one (psx_raise rfl fits_body xc_10 (hr.mono (j := 2) (by decide)) rfl (pax_cons px_str pax_nil))) pssx_nil)
    (pssx_cons (psx_if (ptx_cmp (ox_lt) (px_lenSet rfl rfl m_len m_set (px_fld 1 fits_body ft_1 (px_var 0))) (px_callB (cx_len ⟨rfl, hT.1.symm, hT.2.symm⟩) m_len (pax_cons (px_fld 1 fits_body ft_1 (px_var 0)) pax_nil))) (pssx_one (psx_raise rfl fits_body xc_12 (hr.mono (j := 2) (by decide)) rfl (pax_cons px_str pax_nil))) pssx_nil)
    (pssx_cons (psx_if (ptx_bool (pwx_or (ptx_cmp (ox_eq rfl hr.units) (px_callB (cx_len ⟨rfl, hT.1.symm, hT.2.symm⟩) m_len (pax_cons (px_fld 2 fits_body ft_2 (px_var 0)) pax_nil)) px_int) (pwx_or1 (ptx_cmp (ox_lt) (px_lenSet rfl rfl m_len m_set (px_fld 2 fits_body ft_2 (px_var 0))) (px_callB (cx_len ⟨rfl, hT.1.symm, hT.2.symm⟩) m_len (pax_cons (px_fld 2 fits_body ft_2 (px_var 0)) pax_nil)))))) (pssx_one (psx_raise rfl fits_body xc_12 (hr.mono (j := 2) (by decide)) rfl (pax_cons px_str pax_nil))) pssx_nil)
    (pssx_cons (psx_if (ptx_cmp (ox_gt) (px_callB (cx_len ⟨rfl, hT.1.symm, hT.2.symm⟩) m_len (pax_cons (px_fld 2 fits_body ft_2 (px_var 0)) pax_nil)) (px_cconst rfl cc_1_MOST_KINDS)) (pssx_one (psx_raise rfl fits_body xc_10 (hr.mono (j := 2) (by decide)) rfl (pax_cons px_str pax_nil))) pssx_nil)
    (pssx_one (psx_for false [2] own_body rfl (pix_seq fits_body (px_var 1)) (pgx_name 2 sc_Grammar_check_names.nd) (pssx_one (psx_if (ptx_cmp (ox_gt) (px_var 2) (px_cconst rfl cc_1_MOST_CHILDREN)) (pssx_one (psx_raise rfl fits_body xc_10 (hr.mono (j := 2) (by decide)) rfl (pax_cons px_str pax_nil))) pssx_nil))))))))
abbrev st_Grammar_check_families : Stmt := inClass (top 10) 6
theorem sc_Grammar_check_families : FnScope [(PySem.Str.ofString "self"), (PySem.Str.ofString "kind"), (PySem.Str.ofString "family")] [(PySem.Str.ofString "self")] (defScope st_Grammar_check_families) := ⟨rfl, rfl, rfl, by decide +kernel, rfl, by decide +kernel, by decide +kernel⟩
theorem bx_Grammar_check_families {P : Program} {w : World} {T : Tb} {mg : Str → Option Value} {base : Heap} {f : Addr} (hT : TW P w T) (ft_5 : T.FT[5]? = some (PySem.Str.ofString "families")) (m_len : mg (PySem.Str.ofString "len") = none) (cc_1_MOST_FAMILIES : CcG T mg (PySem.Str.ofString "Grammar") (PySem.Str.ofString "MOST_FAMILIES") 3) (xc_10 : XcG P w T mg base 1 (PySem.Str.ofString "LimitExceeded") 10 [35] (some 0)) (ft_2 : T.FT[2]? = some (PySem.Str.ofString "kinds")) (ft_4 : T.FT[4]? = some (PySem.Str.ofString "_children")) (xc_12 : XcG P w T mg base 1 (PySem.Str.ofString "BadGrammar") 12 [37] (some 0)) (ft_6 : T.FT[6]? = some (PySem.Str.ofString "root")) : BodyX P w T mg base 2 [(PySem.Str.ofString "self"), (PySem.Str.ofString "kind"), (PySem.Str.ofString "family")] (PySem.Str.ofString "Grammar._check_families") st_Grammar_check_families f den_Grammar_check_families := by
  intro cdv A outer s H E hr
  exact (pssx_cons (psx_if (ptx_cmp (ox_gt) (px_callB (cx_len ⟨rfl, hT.1.symm, hT.2.symm⟩) m_len (pax_cons (px_fld 5 fits_body ft_5 (px_var 0)) pax_nil)) (px_cconst rfl cc_1_MOST_FAMILIES)) (pssx_one (psx_raise rfl fits_body xc_10 (hr.mono (j := 2) (by decide)) rfl (pax_cons px_str pax_nil))) pssx_nil)
    (pssx_cons (psx_for false [1, 2] own_body rfl (pix_seq fits_body (px_fld 2 fits_body ft_2 (px_var 0))) (pgx_name 1 sc_Grammar_check_families.nd) (pssx_one (psx_for false [2] own_body rfl (pix_seq fits_body (px_ix ⟨rfl, hT.1.symm, hT.2.symm⟩ (u65 hr) (px_fld 4 fits_body ft_4 (px_var 0)) (px_var 1))) (pgx_name 2 sc_Grammar_check_families.nd) (pssx_one (psx_if (ptx_cmp (ox_nin' ⟨rfl, hT.1.symm, hT.2.symm⟩ (u65 hr)) (px_var 2) (px_fld 5 fits_body ft_5 (px_var 0))) (pssx_one (psx_raise rfl fits_body xc_12 (hr.mono (j := 2) (by decide)) rfl (pax_cons px_str pax_nil))) pssx_nil)))))
    (pssx_one (psx_if (ptx_cmp (ox_nin' ⟨rfl, hT.1.symm, hT.2.symm⟩ (u65 hr)) (px_fld 6 fits_body ft_6 (px_var 0)) (px_fld 5 fits_body ft_5 (px_var 0))) (pssx_one (psx_raise rfl fits_body xc_12 (hr.mono (j := 2) (by decide)) rfl (pax_cons px_str pax_nil))) pssx_nil))))
abbrev st_Grammar_least_sizes : Stmt := inClass (top 10) 7
theorem sc_Grammar_least_sizes : FnScope [(PySem.Str.ofString "self"), (PySem.Str.ofString "sizes"), (PySem.Str.ofString "changed"), (PySem.Str.ofString "kind"), (PySem.Str.ofString "family"), (PySem.Str.ofString "children"), (PySem.Str.ofString "size"), (PySem.Str.ofString "child")] [(PySem.Str.ofString "self")] (defScope st_Grammar_least_sizes) := ⟨rfl, rfl, rfl, by decide +kernel, rfl, by decide +kernel, by decide +kernel⟩
theorem bx_Grammar_least_sizes {P : Program} {w : World} {T : Tb} {mg : Str → Option Value} {base : Heap} {f : Addr} (hT : TW P w T) (ft_2 : T.FT[2]? = some (PySem.Str.ofString "kinds")) (ft_3 : T.FT[3]? = some (PySem.Str.ofString "_families")) (ft_4 : T.FT[4]? = some (PySem.Str.ofString "_children")) (m_all : mg (PySem.Str.ofString "all") = none) (m_sum : mg (PySem.Str.ofString "sum") = none) : BodyX P w T mg base 0 [(PySem.Str.ofString "self"), (PySem.Str.ofString "sizes"), (PySem.Str.ofString "changed"), (PySem.Str.ofString "kind"), (PySem.Str.ofString "family"), (PySem.Str.ofString "children"), (PySem.Str.ofString "size"), (PySem.Str.ofString "child")] (PySem.Str.ofString "Grammar._least_sizes") st_Grammar_least_sizes f den_Grammar_least_sizes := by
  intro cdv A outer s H E hr
  exact (pssx_cut 3 (pssx_popB (pssx_cons (psx_set 1 sc_Grammar_least_sizes.nd px_dctK)
    (pssx_cons (psx_set 2 sc_Grammar_least_sizes.nd px_bl)
    (pssx_one (psx_while 1000 false [3, 4, 5, 6] own_body (ptx_val (px_var 2)) (pssx_cons (psx_set 2 sc_Grammar_least_sizes.nd px_bl)
    (pssx_one (psx_for false [3, 4, 5, 6] own_body rfl (pix_seq fits_body (px_fld 2 fits_body ft_2 (px_var 0))) (pgx_name 3 sc_Grammar_least_sizes.nd) (pssx_cons (psx_set 4 sc_Grammar_least_sizes.nd (px_ix ⟨rfl, hT.1.symm, hT.2.symm⟩ (u65 hr) (px_fld 3 fits_body ft_3 (px_var 0)) (px_var 3)))
    (pssx_cons (psx_set 5 sc_Grammar_least_sizes.nd (px_ix ⟨rfl, hT.1.symm, hT.2.symm⟩ (u65 hr) (px_fld 4 fits_body ft_4 (px_var 0)) (px_var 3)))
    (pssx_one (psx_if (ptx_val (px_callB (cx_all rfl) m_all (pax_cons (px_lc true (own := [((PySem.Str.ofString "child"), 7)]) rfl sc_Grammar_least_sizes.nd (pix_seq fits_body (px_var 5)) (ok := (show BlkOk [(PySem.Str.ofString "self"), (PySem.Str.ofString "sizes"), (PySem.Str.ofString "changed"), (PySem.Str.ofString "kind"), (PySem.Str.ofString "family"), (PySem.Str.ofString "children"), (PySem.Str.ofString "size"), (PySem.Str.ofString "child")] (defScope st_Grammar_least_sizes) _ [((PySem.Str.ofString "child"), 7)] from ⟨rfl, by decide +kernel, by decide +kernel, by decide +kernel, by decide +kernel⟩)) (by decide) (fun _ _ _ _ _ => (pgx_name 7 sc_Grammar_least_sizes.nd)) (fun _ _ _ _ _ => ptsx_nil) (fun _ _ _ _ _ => (px_cmp (ox_in' ⟨rfl, hT.1.symm, hT.2.symm⟩ (u65 hr)) (px_var 7) (px_var 1)))) pax_nil))) (pssx_cons (psx_set 6 sc_Grammar_least_sizes.nd (px_op (ox_add rfl) px_int (px_callB (cx_sum rfl) m_sum (pax_cons (px_lc true (own := [((PySem.Str.ofString "child"), 7)]) rfl sc_Grammar_least_sizes.nd (pix_seq fits_body (px_var 5)) (ok := (show BlkOk [(PySem.Str.ofString "self"), (PySem.Str.ofString "sizes"), (PySem.Str.ofString "changed"), (PySem.Str.ofString "kind"), (PySem.Str.ofString "family"), (PySem.Str.ofString "children"), (PySem.Str.ofString "size"), (PySem.Str.ofString "child")] (defScope st_Grammar_least_sizes) _ [((PySem.Str.ofString "child"), 7)] from ⟨rfl, by decide +kernel, by decide +kernel, by decide +kernel, by decide +kernel⟩)) (by decide) (fun _ _ _ _ _ => (pgx_name 7 sc_Grammar_least_sizes.nd)) (fun _ _ _ _ _ => ptsx_nil) (fun _ _ _ _ _ => (px_ix ⟨rfl, hT.1.symm, hT.2.symm⟩ (u65 hr) (px_var 1) (px_var 7)))) pax_nil))))
    (pssx_one (psx_if (ptx_bool (pwx_or (ptx_cmp (ox_nin' ⟨rfl, hT.1.symm, hT.2.symm⟩ (u65 hr)) (px_var 4) (px_var 1)) (pwx_or1 (ptx_cmp (ox_lt) (px_var 6) (px_ix ⟨rfl, hT.1.symm, hT.2.symm⟩ (u65 hr) (px_var 1) (px_var 4)))))) (pssx_cons (psx_asg (px_var 6) (pgx_sub (W := WN) (px_var 1) (px_var 4) (sx_set ⟨rfl, hT.1.symm, hT.2.symm⟩ (u65 hr))))
    (pssx_one (psx_set 2 sc_Grammar_least_sizes.nd px_bl))) pssx_nil))) pssx_nil))))))))))))
    (pssx_one (psx_ret (px_var 1))))
abbrev st_Grammar_d_initd_ : Stmt := inClass (top 10) 4
theorem sc_Grammar_d_initd_ : FnScope [(PySem.Str.ofString "self"), (PySem.Str.ofString "fields"), (PySem.Str.ofString "kinds"), (PySem.Str.ofString "root"), (PySem.Str.ofString "kind"), (PySem.Str.ofString "name"), (PySem.Str.ofString "family"), (PySem.Str.ofString "_"), (PySem.Str.ofString "children")] [(PySem.Str.ofString "self"), (PySem.Str.ofString "fields"), (PySem.Str.ofString "kinds"), (PySem.Str.ofString "root")] (defScope st_Grammar_d_initd_) := ⟨rfl, rfl, rfl, by decide +kernel, rfl, by decide +kernel, by decide +kernel⟩
theorem kb_Grammar_d_initd_ {K : PySem.W.Frag} {kD : Addr} {dc pm cd ct : Value} {an : Option Addr} (hq : PySem.W.nsIn K kD (PySem.Str.ofString "root") = some (some .none)) : Binds K (PySem.W.fnOf (PySem.Str.ofString "__init__") (PySem.Str.ofString "Grammar.__init__") (defArgs st_Grammar_d_initd_) (defBody st_Grammar_d_initd_) (defScope st_Grammar_d_initd_) .none (.ref kD) dc pm an cd ct) [(PySem.Str.ofString "self"), (PySem.Str.ofString "fields"), (PySem.Str.ofString "kinds"), (PySem.Str.ofString "root")] [.none] :=
  binds_kw1 3 hq rfl fun us hl => by
    match us, hl with
    | [a, b, c], _ => refine ⟨_, _, _, _, _, _, rfl, rfl, ?_⟩; exact rfl
theorem kk_Grammar_d_initd_ {K : PySem.W.Frag} {kD : Addr} {dc pm cd ct : Value} {an : Option Addr} : KBn K (PySem.W.fnOf (PySem.Str.ofString "__init__") (PySem.Str.ofString "Grammar.__init__") (defArgs st_Grammar_d_initd_) (defBody st_Grammar_d_initd_) (defScope st_Grammar_d_initd_) .none (.ref kD) dc pm an cd ct) [(PySem.Str.ofString "self"), (PySem.Str.ofString "fields"), (PySem.Str.ofString "kinds"), (PySem.Str.ofString "root")] 3 [(PySem.Str.ofString "root")] (fun us ws => us ++ ws) (fun vs zs => vs ++ zs) :=
  ⟨fun s us ws _ h1 h2 => by
    match us, h1, ws, h2 with
    | [a, b, c], _, [z], _ => exact BindsTo.of_eq rfl, fun h1 h2 => h1.append h2⟩
theorem bx_Grammar_d_initd_ {P : Program} {w : World} {T : Tb} {mg : Str → Option Value} {base : Heap} {f : Addr} (hT : TW P w T) (m_tuple : mg (PySem.Str.ofString "tuple") = none) (na_1_1 : NaG T 1 1 (PySem.Str.ofString "fields")) (na_1_2 : NaG T 1 2 (PySem.Str.ofString "kinds")) (na_1_3 : NaG T 1 3 (PySem.Str.ofString "_families")) (na_1_4 : NaG T 1 4 (PySem.Str.ofString "_children")) (h_Grammar_check_names : MtG P w T mg base 3 1 (PySem.Str.ofString "_check_names") G_Grammar_check_names) (nf__check_names : (PySem.Str.ofString "_check_names") ∉ T.FT) (m_len : mg (PySem.Str.ofString "len") = none) (na_1_5 : NaG T 1 5 (PySem.Str.ofString "families")) (ft_2 : T.FT[2]? = some (PySem.Str.ofString "kinds")) (ft_3 : T.FT[3]? = some (PySem.Str.ofString "_families")) (ft_5 : T.FT[5]? = some (PySem.Str.ofString "families")) (na_1_6 : NaG T 1 6 (PySem.Str.ofString "root")) (h_Grammar_check_families : MtG P w T mg base 3 1 (PySem.Str.ofString "_check_families") G_Grammar_check_families) (nf__check_families : (PySem.Str.ofString "_check_families") ∉ T.FT) (h_Grammar_least_sizes : MtG P w T mg base 1 1 (PySem.Str.ofString "_least_sizes") G_Grammar_least_sizes) (nf__least_sizes : (PySem.Str.ofString "_least_sizes") ∉ T.FT) (na_1_7 : NaG T 1 7 (PySem.Str.ofString "_sizes")) (ft_7 : T.FT[7]? = some (PySem.Str.ofString "_sizes")) (xc_12 : XcG P w T mg base 1 (PySem.Str.ofString "BadGrammar") 12 [37] (some 0)) : BodyX P w T mg base 3 [(PySem.Str.ofString "self"), (PySem.Str.ofString "fields"), (PySem.Str.ofString "kinds"), (PySem.Str.ofString "root"), (PySem.Str.ofString "kind"), (PySem.Str.ofString "name"), (PySem.Str.ofString "family"), (PySem.Str.ofString "_"), (PySem.Str.ofString "children")] (PySem.Str.ofString "Grammar.__init__") st_Grammar_d_initd_ f den_Grammar_d_initd_ := by
  intro cdv A outer s H E hr
  exact (pssx_cons (psxg_fld 1 1 fits_body na_1_1 (px_var 0) (px_callTy (cx_tuple rfl) m_tuple (pax_cons (px_var 1) pax_nil)))
    (pssx_cons (psxg_fld 1 2 fits_body na_1_2 (px_var 0) (px_callTy (cx_tuple rfl) m_tuple (pax_cons (px_lc true (own := [((PySem.Str.ofString "name"), 5), ((PySem.Str.ofString "_"), 7)]) rfl sc_Grammar_d_initd_.nd (pix_seq fits_body (px_var 2)) (ok := (show BlkOk [(PySem.Str.ofString "self"), (PySem.Str.ofString "fields"), (PySem.Str.ofString "kinds"), (PySem.Str.ofString "root"), (PySem.Str.ofString "kind"), (PySem.Str.ofString "name"), (PySem.Str.ofString "family"), (PySem.Str.ofString "_"), (PySem.Str.ofString "children")] (defScope st_Grammar_d_initd_) _ [((PySem.Str.ofString "name"), 5), ((PySem.Str.ofString "_"), 7)] from ⟨rfl, by decide +kernel, by decide +kernel, by decide +kernel, by decide +kernel⟩)) (by decide) (fun _ _ _ _ _ => (pgx_tup rfl (pgsx_cons (pgx_name 5 sc_Grammar_d_initd_.nd) (pgsx_cons (pgx_name 7 sc_Grammar_d_initd_.nd) (pgsx_cons (pgx_name 7 sc_Grammar_d_initd_.nd) pgsx_nil))))) (fun _ _ _ _ _ => ptsx_nil) (fun _ _ _ _ _ => (px_var 5))) pax_nil)))
    (pssx_cons (psxg_fld 1 3 fits_body na_1_3 (px_var 0) (px_dc (own := [((PySem.Str.ofString "name"), 5), ((PySem.Str.ofString "family"), 6), ((PySem.Str.ofString "_"), 7)]) rfl sc_Grammar_d_initd_.nd (pix_seq fits_body (px_var 2)) (ok := (show BlkOk [(PySem.Str.ofString "self"), (PySem.Str.ofString "fields"), (PySem.Str.ofString "kinds"), (PySem.Str.ofString "root"), (PySem.Str.ofString "kind"), (PySem.Str.ofString "name"), (PySem.Str.ofString "family"), (PySem.Str.ofString "_"), (PySem.Str.ofString "children")] (defScope st_Grammar_d_initd_) _ [((PySem.Str.ofString "name"), 5), ((PySem.Str.ofString "family"), 6), ((PySem.Str.ofString "_"), 7)] from ⟨rfl, by decide +kernel, by decide +kernel, by decide +kernel, by decide +kernel⟩)) (by decide) (fun _ _ _ _ _ => (pgx_tup rfl (pgsx_cons (pgx_name 5 sc_Grammar_d_initd_.nd) (pgsx_cons (pgx_name 6 sc_Grammar_d_initd_.nd) (pgsx_cons (pgx_name 7 sc_Grammar_d_initd_.nd) pgsx_nil))))) (fun _ _ _ _ _ => ptsx_nil) (fun _ _ _ _ _ => (px_var 5)) (fun _ _ _ _ _ => (px_var 6))))
    (pssx_cons (psxg_fld 1 4 fits_body na_1_4 (px_var 0) (px_dc (own := [((PySem.Str.ofString "name"), 5), ((PySem.Str.ofString "_"), 7), ((PySem.Str.ofString "children"), 8)]) rfl sc_Grammar_d_initd_.nd (pix_seq fits_body (px_var 2)) (ok := (show BlkOk [(PySem.Str.ofString "self"), (PySem.Str.ofString "fields"), (PySem.Str.ofString "kinds"), (PySem.Str.ofString "root"), (PySem.Str.ofString "kind"), (PySem.Str.ofString "name"), (PySem.Str.ofString "family"), (PySem.Str.ofString "_"), (PySem.Str.ofString "children")] (defScope st_Grammar_d_initd_) _ [((PySem.Str.ofString "name"), 5), ((PySem.Str.ofString "_"), 7), ((PySem.Str.ofString "children"), 8)] from ⟨rfl, by decide +kernel, by decide +kernel, by decide +kernel, by decide +kernel⟩)) (by decide) (fun _ _ _ _ _ => (pgx_tup rfl (pgsx_cons (pgx_name 5 sc_Grammar_d_initd_.nd) (pgsx_cons (pgx_name 7 sc_Grammar_d_initd_.nd) (pgsx_cons (pgx_name 8 sc_Grammar_d_initd_.nd) pgsx_nil))))) (fun _ _ _ _ _ => ptsx_nil) (fun _ _ _ _ _ => (px_var 5)) (fun _ _ _ _ _ => (px_callTy (cx_tuple rfl) m_tuple (pax_cons (px_var 8) pax_nil)))))
    (pssx_cons (psx_expr (pxg_meth 1 fits_body h_Grammar_check_names nf__check_names (hr.mono (j := 3) (by decide)) (px_var 0) (cb_plain (pax_cons (px_lc true (own := [((PySem.Str.ofString "_"), 7), ((PySem.Str.ofString "children"), 8)]) rfl sc_Grammar_d_initd_.nd (pix_seq fits_body (px_var 2)) (ok := (show BlkOk [(PySem.Str.ofString "self"), (PySem.Str.ofString "fields"), (PySem.Str.ofString "kinds"), (PySem.Str.ofString "root"), (PySem.Str.ofString "kind"), (PySem.Str.ofString "name"), (PySem.Str.ofString "family"), (PySem.Str.ofString "_"), (PySem.Str.ofString "children")] (defScope st_Grammar_d_initd_) _ [((PySem.Str.ofString "_"), 7), ((PySem.Str.ofString "children"), 8)] from ⟨rfl, by decide +kernel, by decide +kernel, by decide +kernel, by decide +kernel⟩)) (by decide) (fun _ _ _ _ _ => (pgx_tup rfl (pgsx_cons (pgx_name 7 sc_Grammar_d_initd_.nd) (pgsx_cons (pgx_name 7 sc_Grammar_d_initd_.nd) (pgsx_cons (pgx_name 8 sc_Grammar_d_initd_.nd) pgsx_nil))))) (fun _ _ _ _ _ => ptsx_nil) (fun _ _ _ _ _ => (px_callB (cx_len ⟨rfl, hT.1.symm, hT.2.symm⟩) m_len (pax_cons (px_var 8) pax_nil)))) pax_nil))))
    (pssx_cons (psxg_fld 1 5 fits_body na_1_5 (px_var 0) (px_tup pax_nil))
    (pssx_cons (psx_for false [4] own_body rfl (pix_seq fits_body (px_fld 2 fits_body ft_2 (px_var 0))) (pgx_name 4 sc_Grammar_d_initd_.nd) (pssx_one (psx_if (ptx_cmp (ox_nin' ⟨rfl, hT.1.symm, hT.2.symm⟩ (u65 hr)) (px_ix ⟨rfl, hT.1.symm, hT.2.symm⟩ (u65 hr) (px_fld 3 fits_body ft_3 (px_var 0)) (px_var 4)) (px_fld 5 fits_body ft_5 (px_var 0))) (pssx_one (psxg_fld 1 5 fits_body na_1_5 (px_var 0) (px_tup (pax_star fits_body (px_fld 5 fits_body ft_5 (px_var 0)) (pax_cons (px_ix ⟨rfl, hT.1.symm, hT.2.symm⟩ (u65 hr) (px_fld 3 fits_body ft_3 (px_var 0)) (px_var 4)) pax_nil))))) pssx_nil)))
    (pssx_cons (psxg_fld 1 6 fits_body na_1_6 (px_var 0) (px_if (ptx_cmp (ox_is) (px_var 3) px_non) (px_ix ⟨rfl, hT.1.symm, hT.2.symm⟩ (u65 hr) (px_fld 5 fits_body ft_5 (px_var 0)) px_int) (px_var 3)))
    (pssx_cons (psx_expr (pxg_meth 1 fits_body h_Grammar_check_families nf__check_families (hr.mono (j := 3) (by decide)) (px_var 0) cb_nil))
    (pssx_cons (psxg_fld 1 7 fits_body na_1_7 (px_var 0) (pxg_meth 1 fits_body h_Grammar_least_sizes nf__least_sizes (hr.mono (j := 1) (by decide)) (px_var 0) cb_nil))
    (pssx_one (psx_if (ptx_cmp (ox_lt) (px_callB (cx_len ⟨rfl, hT.1.symm, hT.2.symm⟩) m_len (pax_cons (px_fld 7 fits_body ft_7 (px_var 0)) pax_nil)) (px_callB (cx_len ⟨rfl, hT.1.symm, hT.2.symm⟩) m_len (pax_cons (px_fld 5 fits_body ft_5 (px_var 0)) pax_nil))) (pssx_one (psx_raise rfl fits_body xc_12 (hr.mono (j := 2) (by decide)) rfl (pax_cons px_str pax_nil))) pssx_nil))))))))))))
abbrev st_law_due : Stmt := top 16
theorem sc_law_due : FnScope [(PySem.Str.ofString "_law_walks"), (PySem.Str.ofString "_law_names_here"), (PySem.Str.ofString "_law_name")] [(PySem.Str.ofString "_law_walks"), (PySem.Str.ofString "_law_names_here")] (defScope st_law_due) := ⟨rfl, rfl, rfl, by decide +kernel, rfl, by decide +kernel, by decide +kernel⟩
theorem bx_law_due {P : Program} {w : World} {T : Tb} {mg : Str → Option Value} {base : Heap} {f : Addr} (hT : TW P w T) (m_len : mg (PySem.Str.ofString "len") = none) (m_tuple : mg (PySem.Str.ofString "tuple") = none) : BodyX P w T mg base 0 [(PySem.Str.ofString "_law_walks"), (PySem.Str.ofString "_law_names_here"), (PySem.Str.ofString "_law_name")] (PySem.Str.ofString "_law_due") st_law_due f den_law_due := by
  intro cdv A outer s H E hr
  exact (pssx_cons (psx_if (ptx_cmp (ox_gt) (px_callB (cx_len ⟨rfl, hT.1.symm, hT.2.symm⟩) m_len (pax_cons (px_var 1) pax_nil)) px_int) (pssx_one (psx_ret (px_tup (pax_cons px_str (pax_cons px_str (pax_cons px_bl pax_nil)))))) pssx_nil)
    (pssx_cons (psx_for false [2] own_body rfl (pix_seq fits_body (px_var 1)) (pgx_name 2 sc_law_due.nd) (pssx_one (psx_if (ptx_cmp (ox_nin' ⟨rfl, hT.1.symm, hT.2.symm⟩ (u65 hr)) (px_var 2) (px_var 0)) (pssx_one (psx_ret (px_tup (pax_cons px_str (pax_cons (px_var 2) (pax_cons px_bl pax_nil)))))) pssx_nil)))
    (pssx_one (psx_ret (px_tup (pax_cons px_str (pax_cons (px_callTy (cx_tuple rfl) m_tuple (pax_cons (px_var 1) pax_nil)) pax_nil)))))))
abbrev st_Program_row : Stmt := inClass (top 8) 8
theorem sc_Program_row : FnScope [(PySem.Str.ofString "self"), (PySem.Str.ofString "names"), (PySem.Str.ofString "name")] [(PySem.Str.ofString "self"), (PySem.Str.ofString "names")] (defScope st_Program_row) := ⟨rfl, rfl, rfl, by decide +kernel, rfl, by decide +kernel, by decide +kernel⟩
theorem bx_Program_row {P : Program} {w : World} {T : Tb} {mg : Str → Option Value} {base : Heap} {f : Addr} (hT : TW P w T) (m_len : mg (PySem.Str.ofString "len") = none) (cc_2_MOST_NAMES : CcG T mg (PySem.Str.ofString "Program") (PySem.Str.ofString "MOST_NAMES") 6) (xc_10 : XcG P w T mg base 1 (PySem.Str.ofString "LimitExceeded") 10 [35] (some 0)) (ft_9 : T.FT[9]? = some (PySem.Str.ofString "names")) (xc_11 : XcG P w T mg base 1 (PySem.Str.ofString "UnknownName") 11 [36] (some 0)) (m_tuple : mg (PySem.Str.ofString "tuple") = none) : BodyX P w T mg base 2 [(PySem.Str.ofString "self"), (PySem.Str.ofString "names"), (PySem.Str.ofString "name")] (PySem.Str.ofString "Program.row") st_Program_row f den_Program_row := by
  intro cdv A outer s H E hr
  exact (pssx_cons (psx_if (ptx_cmp (ox_gt) (px_callB (cx_len ⟨rfl, hT.1.symm, hT.2.symm⟩) m_len (pax_cons (px_var 1) pax_nil)) (px_cconst rfl cc_2_MOST_NAMES)) (pssx_one (psx_raise rfl fits_body xc_10 (hr.mono (j := 2) (by decide)) rfl (pax_cons px_str pax_nil))) pssx_nil)
    (pssx_cons (psx_for false [2] own_body rfl (pix_seq fits_body (px_var 1)) (pgx_name 2 sc_Program_row.nd) (pssx_one (psx_if (ptx_cmp (ox_nin' ⟨rfl, hT.1.symm, hT.2.symm⟩ (u65 hr)) (px_var 2) (px_fld 9 fits_body ft_9 (px_var 0))) (pssx_one (psx_raise rfl fits_body xc_11 (hr.mono (j := 2) (by decide)) rfl (pax_cons (px_var 2) pax_nil))) pssx_nil)))
    (pssx_one (psx_ret (px_callTy (cx_tuple rfl) m_tuple (pax_cons (px_var 1) pax_nil))))))
abbrev st_law_told : Stmt := top 15
theorem sc_law_told : FnScope [(PySem.Str.ofString "_law_program"), (PySem.Str.ofString "_law_names_here"), (PySem.Str.ofString "e")] [(PySem.Str.ofString "_law_program"), (PySem.Str.ofString "_law_names_here")] (defScope st_law_told) := ⟨rfl, rfl, rfl, by decide +kernel, rfl, by decide +kernel, by decide +kernel⟩
theorem bx_law_told {P : Program} {w : World} {T : Tb} {mg : Str → Option Value} {base : Heap} {f : Addr} (hT : TW P w T) (h_Program_row : MtG P w T mg base 3 2 (PySem.Str.ofString "row") G_Program_row) (nf_row : (PySem.Str.ofString "row") ∉ T.FT) (ie_LimitExceeded_WalkError : IeG T mg [(10, true), (11, false)] (PySem.Str.ofString "WalkError") [(10, true)]) (m_isinstance : mg (PySem.Str.ofString "isinstance") = none) (ie_LimitExceeded_UnknownName : IeG T mg [(10, true), (11, false)] (PySem.Str.ofString "UnknownName") [(10, false)]) (ft_35 : T.FT[35]? = some (PySem.Str.ofString "limit")) (xf_LimitExceeded_limit : XfG T [(10, true), (11, false)] (PySem.Str.ofString "limit")) (sb_LimitExceeded : SbG T mg (PySem.Str.ofString "LimitExceeded") [(10, true), (11, false)]) (ie_UnknownName_WalkError : IeG T mg [(10, false), (11, true)] (PySem.Str.ofString "WalkError") [(11, true)]) (ie_UnknownName_ValueError : IsEG T [(10, false), (11, true)] (.type "ValueError") [(11, true)]) (m_ValueError : mg (PySem.Str.ofString "ValueError") = none) (ft_36 : T.FT[36]? = some (PySem.Str.ofString "name")) (xf_UnknownName_name : XfG T [(10, false), (11, true)] (PySem.Str.ofString "name")) (sb_UnknownName : SbG T mg (PySem.Str.ofString "UnknownName") [(10, false), (11, true)]) (hX : T.ex = none) : BodyX P w T mg base 3 [(PySem.Str.ofString "_law_program"), (PySem.Str.ofString "_law_names_here"), (PySem.Str.ofString "e")] (PySem.Str.ofString "_law_told") st_law_told f den_law_told := by
  intro cdv A outer s H E hr
  exact (pssx_one (psx_try hX fits_body rfl rfl sc_law_told.nd (fun _ _ _ F1 hp1 => (pssx_one (psx_ret (px_tup (pax_cons px_str (pax_cons (pxg_meth 2 F1 h_Program_row nf_row (hr.mono (j := 3) (by decide)) (px_var 0) (cb_plain (pax_cons (px_var 1) pax_nil))) pax_nil)))))) (hx_named 2 rfl sb_LimitExceeded (fun a2 oe2 dd2 c2 C2 pn2 hC2 hs2 hz2 hf2 => (pssx_one (psx_ret (px_tup (pax_cons px_str (pax_cons (px_xf rfl ft_35 hC2 hs2 xf_LimitExceeded_limit hz2 hf2 (px_var 2)) (pax_cons (px_and (px_isE1 rfl hC2 hs2 ie_LimitExceeded_WalkError hz2 hf2 m_isinstance (px_var 2)) (px_one (px_not (px_isE1 rfl hC2 hs2 ie_LimitExceeded_UnknownName hz2 hf2 m_isinstance (px_var 2))))) pax_nil))))))) (hx_named 2 rfl sb_UnknownName (fun a3 oe3 dd3 c3 C3 pn3 hC3 hs3 hz3 hf3 => (pssx_one (psx_ret (px_tup (pax_cons px_str (pax_cons (px_xf rfl ft_36 hC3 hs3 xf_UnknownName_name hz3 hf3 (px_var 2)) (pax_cons (px_and (px_isE1 rfl hC3 hs3 ie_UnknownName_WalkError hz3 hf3 m_isinstance (px_var 2)) (px_one (px_isE2 rfl hC3 hs3 ie_UnknownName_ValueError hz3 hf3 m_isinstance m_ValueError (px_var 2)))) pax_nil))))))) .nil))))
abbrev st_law : Stmt := top 17
theorem sc_law : FnScope [(PySem.Str.ofString "_law_script"), (PySem.Str.ofString "_law_source_here"), (PySem.Str.ofString "_law_walks"), (PySem.Str.ofString "_law_known"), (PySem.Str.ofString "_law_name"), (PySem.Str.ofString "_law_program"), (PySem.Str.ofString "_law_names_here"), (PySem.Str.ofString "_law_n"), (PySem.Str.ofString "_law_kept"), (PySem.Str.ofString "_law_due_here"), (PySem.Str.ofString "_law_good"), (PySem.Str.ofString "_law_stranger")] [(PySem.Str.ofString "_law_script")] (defScope st_law) := ⟨rfl, rfl, rfl, by decide +kernel, rfl, by decide +kernel, by decide +kernel⟩
theorem bx_law {P : Program} {w : World} {T : Tb} {mg : Str → Option Value} {base : Heap} {f : Addr} (hT : TW P w T) (h_law_source : FnG P w T mg base 1 (PySem.Str.ofString "_law_source") G_law_source) (h_law_names : FnG P w T mg base 2 (PySem.Str.ofString "_law_names") G_law_names) (h_law_draw : FnG P w T mg base 1 (PySem.Str.ofString "_law_draw") G_law_draw) (h_Program_d_initd_ : ClG P w T mg base 3 2 (PySem.Str.ofString "Program") G_Program_d_initd_) (h_Grammar_d_initd_ : ClG P w T mg base 4 1 (PySem.Str.ofString "Grammar") G_Grammar_d_initd_) (m_range : mg (PySem.Str.ofString "range") = none) (m_int : mg (PySem.Str.ofString "int") = none) (m_len : mg (PySem.Str.ofString "len") = none) (m_list : mg (PySem.Str.ofString "list") = none) (h_law_due : FnG P w T mg base 1 (PySem.Str.ofString "_law_due") G_law_due) (h_law_told : FnG P w T mg base 4 (PySem.Str.ofString "_law_told") G_law_told) (m_tuple : mg (PySem.Str.ofString "tuple") = none) (h_Program_row : MtG P w T mg base 3 2 (PySem.Str.ofString "row") G_Program_row) (nf_row : (PySem.Str.ofString "row") ∉ T.FT) : BodyX P w T mg base 5 [(PySem.Str.ofString "_law_script"), (PySem.Str.ofString "_law_source_here"), (PySem.Str.ofString "_law_walks"), (PySem.Str.ofString "_law_known"), (PySem.Str.ofString "_law_name"), (PySem.Str.ofString "_law_program"), (PySem.Str.ofString "_law_names_here"), (PySem.Str.ofString "_law_n"), (PySem.Str.ofString "_law_kept"), (PySem.Str.ofString "_law_due_here"), (PySem.Str.ofString "_law_good"), (PySem.Str.ofString "_law_stranger")] (PySem.Str.ofString "law") st_law f den_law := by
  intro cdv A outer s H E hr
  exact (pssx_cons (psx_set 1 sc_law.nd (pxg_call fits_body h_law_source (hr.mono (j := 1) (by decide)) (cb_plain (pax_cons (px_var 0) pax_nil))))
    (pssx_cons (psx_set 2 sc_law.nd (pxg_call fits_body h_law_names (hr.mono (j := 2) (by decide)) (cb_plain (pax_cons (px_var 1) (pax_cons (px_op (ox_add rfl) px_int (pxg_call fits_body h_law_draw (hr.mono (j := 1) (by decide)) (cb_plain (pax_cons (px_var 1) (pax_cons px_int pax_nil))))) pax_nil)))))
    (pssx_cut 2 (pssx_popB (pssx_cons (psx_set 3 sc_law.nd px_dctK)
    (pssx_one (psx_for false [4] own_body rfl (pix_seq fits_body (px_var 2)) (pgx_name 4 sc_law.nd) (pssx_one (psx_asg px_dctV (pgx_sub (W := WN) (px_var 3) (px_var 4) (sx_set ⟨rfl, hT.1.symm, hT.2.symm⟩ (u65 hr)))))))))
    (pssx_cons (psx_set 5 sc_law.nd (pxg_make 2 fits_body h_Program_d_initd_ (hr.mono (j := 4) (by decide)) (cb_plain (pax_cons (pxg_makeV 1 fits_body h_Grammar_d_initd_ (hr.mono (j := 5) (by decide)) (cb_plain (pax_cons (px_lstV pax_nil) (pax_cons (px_lstV (pax_cons (px_tup (pax_cons px_str (pax_cons px_str (pax_cons (px_lstV pax_nil) pax_nil)))) pax_nil)) pax_nil)))) (pax_cons (px_var 3) pax_nil)))))
    (pssx_cut 2 (pssx_popB (pssx_cons (psx_set 6 sc_law.nd (px_lst pax_nil))
    (pssx_one (psx_for false [7, 11] own_body rfl (pix_rng1 rfl m_range (pxg_call fits_body h_law_draw (hr.mono (j := 1) (by decide)) (cb_plain (pax_cons (px_var 1) (pax_cons px_int pax_nil))))) (pgx_name 7 sc_law.nd) (pssx_cons (psx_set 11 sc_law.nd (px_ix ⟨rfl, hT.1.symm, hT.2.symm⟩ (u65 hr) (px_lstV (pax_cons px_str (pax_cons px_str pax_nil))) (px_op (ox_mod) (px_callTy (cx_int) m_int (pax_cons (px_var 7) pax_nil)) px_int)))
    (pssx_one (psx_expr (px_app (px_var 6) (px_if (ptx_cmp (ox_eq rfl hr.units) (pxg_call fits_body h_law_draw (hr.mono (j := 1) (by decide)) (cb_plain (pax_cons (px_var 1) (pax_cons px_int pax_nil)))) px_int) (px_var 11) (px_ix ⟨rfl, hT.1.symm, hT.2.symm⟩ (u65 hr) (px_var 2) (pxg_call fits_body h_law_draw (hr.mono (j := 1) (by decide)) (cb_plain (pax_cons (px_var 1) (pax_cons (px_callB (cx_len ⟨rfl, hT.1.symm, hT.2.symm⟩) m_len (pax_cons (px_var 2) pax_nil)) pax_nil))))))))))))))
    (pssx_cons (psx_set 8 sc_law.nd (px_callTy (cx_listD rfl rfl) m_list (pax_cons (px_var 6) pax_nil)))
    (pssx_cons (psx_set 9 sc_law.nd (pxg_call fits_body h_law_due (hr.mono (j := 1) (by decide)) (cb_plain (pax_cons (px_var 2) (pax_cons (px_var 6) pax_nil)))))
    (pssx_cons (psx_if (ptx_bool (pwx_or (ptx_cmp (ox_ne rfl hr.units) (pxg_call fits_body h_law_told (hr.mono (j := 4) (by decide)) (cb_plain (pax_cons (px_var 5) (pax_cons (px_var 6) pax_nil)))) (px_var 9)) (pwx_or (ptx_cmp (ox_ne rfl hr.units) (px_var 6) (px_var 8)) (pwx_or1 (ptx_cmp (ox_ne rfl hr.units) (pxg_call fits_body h_law_told (hr.mono (j := 4) (by decide)) (cb_plain (pax_cons (px_var 5) (pax_cons (px_callTy (cx_tuple rfl) m_tuple (pax_cons (px_var 6) pax_nil)) pax_nil)))) (px_var 9)))))) (pssx_one (psx_ret px_bl)) pssx_nil)
    (pssx_cons (psx_set 10 sc_law.nd (px_slice rfl (px_lc true (own := [((PySem.Str.ofString "_law_name"), 4)]) rfl sc_law.nd (pix_seq fits_body (px_var 6)) (ok := (show BlkOk [(PySem.Str.ofString "_law_script"), (PySem.Str.ofString "_law_source_here"), (PySem.Str.ofString "_law_walks"), (PySem.Str.ofString "_law_known"), (PySem.Str.ofString "_law_name"), (PySem.Str.ofString "_law_program"), (PySem.Str.ofString "_law_names_here"), (PySem.Str.ofString "_law_n"), (PySem.Str.ofString "_law_kept"), (PySem.Str.ofString "_law_due_here"), (PySem.Str.ofString "_law_good"), (PySem.Str.ofString "_law_stranger")] (defScope st_law) _ [((PySem.Str.ofString "_law_name"), 4)] from ⟨rfl, by decide +kernel, by decide +kernel, by decide +kernel, by decide +kernel⟩)) (by decide) (fun _ _ _ _ _ => (pgx_name 4 sc_law.nd)) (fun _ _ _ _ _ => (ptsx_one (ptx_cmp (ox_in' ⟨rfl, hT.1.symm, hT.2.symm⟩ (u65 hr)) (px_var 4) (px_var 2)))) (fun _ _ _ _ _ => (px_var 4))) pox_none (pox_some px_int)))
    (pssx_one (psx_ret (px_and (px_cmp (ox_eq rfl hr.units) (pxg_call fits_body h_law_told (hr.mono (j := 4) (by decide)) (cb_plain (pax_cons (px_var 5) (pax_cons (px_var 10) pax_nil)))) (px_tup (pax_cons px_str (pax_cons (px_callTy (cx_tuple rfl) m_tuple (pax_cons (px_var 10) pax_nil)) pax_nil)))) (px_one (px_cmp (ox_eq rfl hr.units) (pxg_meth 2 fits_body h_Program_row nf_row (hr.mono (j := 3) (by decide)) (px_var 5) (cb_plain (pax_cons (px_lstV pax_nil) pax_nil))) (px_tup pax_nil)))))))))))))))
abbrev st_LimitExceeded_d_initd_ : Stmt := inClass (top 3) 0
theorem sc_LimitExceeded_d_initd_ : SupScope [(PySem.Str.ofString "self"), (PySem.Str.ofString "limit")] [(PySem.Str.ofString "self"), (PySem.Str.ofString "limit")] (defScope st_LimitExceeded_d_initd_) := ⟨rfl, rfl, rfl, by decide +kernel, rfl, by decide +kernel, by decide +kernel, by decide +kernel, rfl, rfl⟩
abbrev st_UnknownName_d_initd_ : Stmt := inClass (top 4) 0
theorem sc_UnknownName_d_initd_ : SupScope [(PySem.Str.ofString "self"), (PySem.Str.ofString "name")] [(PySem.Str.ofString "self"), (PySem.Str.ofString "name")] (defScope st_UnknownName_d_initd_) := ⟨rfl, rfl, rfl, by decide +kernel, rfl, by decide +kernel, by decide +kernel, by decide +kernel, rfl, rfl⟩
abbrev st_BadGrammar_d_initd_ : Stmt := inClass (top 5) 0
theorem sc_BadGrammar_d_initd_ : SupScope [(PySem.Str.ofString "self"), (PySem.Str.ofString "part")] [(PySem.Str.ofString "self"), (PySem.Str.ofString "part")] (defScope st_BadGrammar_d_initd_) := ⟨rfl, rfl, rfl, by decide +kernel, rfl, by decide +kernel, by decide +kernel, by decide +kernel, rfl, rfl⟩
end K08

set_option Elab.async false
set_option linter.all false
set_option maxRecDepth 100000
set_option maxHeartbeats 4000000
namespace K08
open PySem PySem.Spec PyProof.Rows L2 FV
def FTs : List Str := [(PySem.Str.ofString "groups"), (PySem.Str.ofString "fields"), (PySem.Str.ofString "kinds"), (PySem.Str.ofString "_families"), (PySem.Str.ofString "_children"), (PySem.Str.ofString "families"), (PySem.Str.ofString "root"), (PySem.Str.ofString "_sizes"), (PySem.Str.ofString "grammar"), (PySem.Str.ofString "names"), (PySem.Str.ofString "_ignored"), (PySem.Str.ofString "_bodies"), (PySem.Str.ofString "program"), (PySem.Str.ofString "kept"), (PySem.Str.ofString "kind"), (PySem.Str.ofString "family"), (PySem.Str.ofString "children"), (PySem.Str.ofString "size"), (PySem.Str.ofString "depth"), (PySem.Str.ofString "events"), (PySem.Str.ofString "sources"), (PySem.Str.ofString "rows"), (PySem.Str.ofString "tree"), (PySem.Str.ofString "trace"), (PySem.Str.ofString "turns"), (PySem.Str.ofString "count"), (PySem.Str.ofString "schedules"), (PySem.Str.ofString "path"), (PySem.Str.ofString "batch"), (PySem.Str.ofString "earlier"), (PySem.Str.ofString "later"), (PySem.Str.ofString "first"), (PySem.Str.ofString "second"), (PySem.Str.ofString "place"), (PySem.Str.ofString "field"), (PySem.Str.ofString "limit"), (PySem.Str.ofString "name"), (PySem.Str.ofString "part"), (PySem.Str.ofString "walk"), (PySem.Str.ofString "index"), (PySem.Str.ofString "way"), (PySem.Str.ofString "loop"), (PySem.Str.ofString "cycle")]
def tb (P : Program) (w : World) (K : PySem.W.Frag) (C1 C2 C9 C10 C11 C12 : Addr) : Tb := ⟨P, w, K, [0, C1, C2, 0, 0, 0, 0, 0, 0, C9, C10, C11, C12, 0, 0, 0, 0, 0, 0], FTs, by decide +kernel, none⟩
def spLaw (K : PySem.W.Frag) : Sp := fun vs H Q _ => ∃ (a : Addr) (ns : List Int), vs = [.ref a] ∧ Only H ∧ SqL K H a (ns.map V.int) ∧ ns.length ≤ 63 ∧ ∀ H', Q (.bl true) H'
theorem sp_law {P : Program} {w : World} {K : PySem.W.Frag} {C1 C2 C9 C10 C11 C12 : Addr} {vs : List V} {H : Hp} {Q : VK} {E : XK} (h : spLaw K vs H Q E) : spR (tb P w K C1 C2 C9 C10 C11 C12) G_law vs H Q E := by
  obtain ⟨a, ns, rfl, hO, hS, hl, k⟩ := h
  obtain ⟨st, e⟩ := law_plain ns hl
  refine ⟨⟨[], []⟩, [.scr ns], [], ⟨rfl, fun i o b e1 e2 => by simp at e1, fun i j b e1 e2 => by simp at e1, fun a ha => by simp at ha, fun a ha => by simp at ha⟩, RVs.one (by simp only [RV]; exact ⟨a, rfl, (script_rv hO hS).imp (fun ⟨o, z⟩ => ⟨o, ⟨by simp, by simp⟩, z⟩) id⟩), ?_⟩
  rw [e]
  intro μ' v H' s x r
  simp only [RV] at r
  subst r
  exact k H'
theorem all_mk {l : PySem.W.OpenLaw} {w : World} {K : PySem.W.Frag} {h : Heap} {mg : Str → Option Value} {fa : Addr} (X0 : K.In h) (G0 : h.Ns mainGlobals mg) (hfa : mg "law" = some (.ref fa))
    {C1 : Addr} {C2 : Addr} {C9 : Addr} {C10 : Addr} {C11 : Addr} {C12 : Addr} {cdx_10 : ClassData} {cdx_9 : ClassData} {nm_10 qn_10 : Str} {N_10 : Addr} {bs_10 bm_10 sub_10 : List Value} {sn_10 : List Str} {ab_10 : Bool} {col_10 : Option Bool} {dd_10 : Option Addr} {ka_10 kb_10 kc_10 kd_10 ke_10 : Option Value} {f_LimitExceeded_d_initd_ cc_LimitExceeded_d_initd_ cda_LimitExceeded_d_initd_ : Addr} {od_LimitExceeded_d_initd_ an_LimitExceeded_d_initd_ od2_LimitExceeded_d_initd_ od3_LimitExceeded_d_initd_ : Option Addr} {sl_LimitExceeded_d_initd_ sl2_LimitExceeded_d_initd_ sl3_LimitExceeded_d_initd_ : Array (Option Value)} {oc_LimitExceeded_d_initd_ kV_LimitExceeded_d_initd_ dc_LimitExceeded_d_initd_ pm_LimitExceeded_d_initd_ ct_LimitExceeded_d_initd_ oc2_LimitExceeded_d_initd_ oc3_LimitExceeded_d_initd_ : Value} {vs_LimitExceeded_d_initd_ : Array Value} {file_LimitExceeded_d_initd_ : Str} {tf_LimitExceeded_d_initd_ : Tok} {cdx_11 : ClassData} {nm_11 qn_11 : Str} {N_11 : Addr} {bs_11 bm_11 sub_11 : List Value} {sn_11 : List Str} {ab_11 : Bool} {col_11 : Option Bool} {dd_11 : Option Addr} {ka_11 kb_11 kc_11 kd_11 ke_11 : Option Value} {f_UnknownName_d_initd_ cc_UnknownName_d_initd_ cda_UnknownName_d_initd_ : Addr} {od_UnknownName_d_initd_ an_UnknownName_d_initd_ od2_UnknownName_d_initd_ od3_UnknownName_d_initd_ : Option Addr} {sl_UnknownName_d_initd_ sl2_UnknownName_d_initd_ sl3_UnknownName_d_initd_ : Array (Option Value)} {oc_UnknownName_d_initd_ kV_UnknownName_d_initd_ dc_UnknownName_d_initd_ pm_UnknownName_d_initd_ ct_UnknownName_d_initd_ oc2_UnknownName_d_initd_ oc3_UnknownName_d_initd_ : Value} {vs_UnknownName_d_initd_ : Array Value} {file_UnknownName_d_initd_ : Str} {tf_UnknownName_d_initd_ : Tok} {cdx_12 : ClassData} {nm_12 qn_12 : Str} {N_12 : Addr} {bs_12 bm_12 sub_12 : List Value} {sn_12 : List Str} {ab_12 : Bool} {col_12 : Option Bool} {dd_12 : Option Addr} {ka_12 kb_12 kc_12 kd_12 ke_12 : Option Value} {f_BadGrammar_d_initd_ cc_BadGrammar_d_initd_ cda_BadGrammar_d_initd_ : Addr} {od_BadGrammar_d_initd_ an_BadGrammar_d_initd_ od2_BadGrammar_d_initd_ od3_BadGrammar_d_initd_ : Option Addr} {sl_BadGrammar_d_initd_ sl2_BadGrammar_d_initd_ sl3_BadGrammar_d_initd_ : Array (Option Value)} {oc_BadGrammar_d_initd_ kV_BadGrammar_d_initd_ dc_BadGrammar_d_initd_ pm_BadGrammar_d_initd_ ct_BadGrammar_d_initd_ oc2_BadGrammar_d_initd_ oc3_BadGrammar_d_initd_ : Value} {vs_BadGrammar_d_initd_ : Array Value} {file_BadGrammar_d_initd_ : Str} {tf_BadGrammar_d_initd_ : Tok} {tk_cc_2_MOST_WALKS : Tok} {tk_cc_1_MOST_FIELDS : Tok} {tk_cc_1_MOST_KINDS : Tok} {tk_cc_1_MOST_CHILDREN : Tok} {tk_cc_1_MOST_FAMILIES : Tok} {tk_cc_2_MOST_NAMES : Tok} {f_law_source : Addr} {od_law_source an_law_source : Option Addr} {sl_law_source : Array (Option Value)} {oc_law_source kV_law_source dc_law_source pm_law_source cd_law_source ct_law_source : Value} {f_law_draw : Addr} {od_law_draw an_law_draw : Option Addr} {sl_law_draw : Array (Option Value)} {oc_law_draw kV_law_draw dc_law_draw pm_law_draw cd_law_draw ct_law_draw : Value} {f_law_names : Addr} {od_law_names an_law_names : Option Addr} {sl_law_names : Array (Option Value)} {oc_law_names kV_law_names dc_law_names pm_law_names cd_law_names ct_law_names : Value} {f_Program_d_initd_ : Addr} {od_Program_d_initd_ an_Program_d_initd_ : Option Addr} {sl_Program_d_initd_ : Array (Option Value)} {oc_Program_d_initd_ kV_Program_d_initd_ dc_Program_d_initd_ pm_Program_d_initd_ cd_Program_d_initd_ ct_Program_d_initd_ : Value} {f_Grammar_check_names : Addr} {od_Grammar_check_names an_Grammar_check_names : Option Addr} {sl_Grammar_check_names : Array (Option Value)} {oc_Grammar_check_names kV_Grammar_check_names dc_Grammar_check_names pm_Grammar_check_names cd_Grammar_check_names ct_Grammar_check_names : Value} {f_Grammar_check_families : Addr} {od_Grammar_check_families an_Grammar_check_families : Option Addr} {sl_Grammar_check_families : Array (Option Value)} {oc_Grammar_check_families kV_Grammar_check_families dc_Grammar_check_families pm_Grammar_check_families cd_Grammar_check_families ct_Grammar_check_families : Value} {f_Grammar_least_sizes : Addr} {od_Grammar_least_sizes an_Grammar_least_sizes : Option Addr} {sl_Grammar_least_sizes : Array (Option Value)} {oc_Grammar_least_sizes kV_Grammar_least_sizes dc_Grammar_least_sizes pm_Grammar_least_sizes cd_Grammar_least_sizes ct_Grammar_least_sizes : Value} {f_Grammar_d_initd_ : Addr} {od_Grammar_d_initd_ an_Grammar_d_initd_ : Option Addr} {sl_Grammar_d_initd_ : Array (Option Value)} {oc_Grammar_d_initd_ kV_Grammar_d_initd_ dc_Grammar_d_initd_ pm_Grammar_d_initd_ cd_Grammar_d_initd_ ct_Grammar_d_initd_ : Value} {kD_Grammar_d_initd_ : Addr} {f_law_due : Addr} {od_law_due an_law_due : Option Addr} {sl_law_due : Array (Option Value)} {oc_law_due kV_law_due dc_law_due pm_law_due cd_law_due ct_law_due : Value} {f_Program_row : Addr} {od_Program_row an_Program_row : Option Addr} {sl_Program_row : Array (Option Value)} {oc_Program_row kV_Program_row dc_Program_row pm_Program_row cd_Program_row ct_Program_row : Value} {f_law_told : Addr} {od_law_told an_law_told : Option Addr} {sl_law_told : Array (Option Value)} {oc_law_told kV_law_told dc_law_told pm_law_told cd_law_told ct_law_told : Value} {f_law : Addr} {od_law an_law : Option Addr} {sl_law : Array (Option Value)} {oc_law kV_law dc_law pm_law cd_law ct_law : Value}
    (aC1 : PySem.W.nsIn K mainGlobals (PySem.Str.ofString "Grammar") = some (some (.ref C1)))
    (pg1 : PySem.W.plainGet K C1 Str.empty = true)
    (hd1 : PySem.W.hasDictIn K C1 = true)
    (po1 : PySem.W.plainOver K C1 = true)
    (sa1 : PySem.W.findIn K (.ref C1) "__setattr__" = some (some (.builtin "object.__setattr__")))
    (mk1 : PySem.W.makesIn K C1 = true)
    (kc1 : PySem.W.keepIn K (.ref C1) = true)
    (aC2 : PySem.W.nsIn K mainGlobals (PySem.Str.ofString "Program") = some (some (.ref C2)))
    (pg2 : PySem.W.plainGet K C2 Str.empty = true)
    (hd2 : PySem.W.hasDictIn K C2 = true)
    (po2 : PySem.W.plainOver K C2 = true)
    (sa2 : PySem.W.findIn K (.ref C2) "__setattr__" = some (some (.builtin "object.__setattr__")))
    (mk2 : PySem.W.makesIn K C2 = true)
    (kc2 : PySem.W.keepIn K (.ref C2) = true)
    (aC9 : PySem.W.nsIn K mainGlobals (PySem.Str.ofString "WalkError") = some (some (.ref C9)))
    (aC10 : PySem.W.nsIn K mainGlobals (PySem.Str.ofString "LimitExceeded") = some (some (.ref C10)))
    (aC11 : PySem.W.nsIn K mainGlobals (PySem.Str.ofString "UnknownName") = some (some (.ref C11)))
    (aC12 : PySem.W.nsIn K mainGlobals (PySem.Str.ofString "BadGrammar") = some (some (.ref C12)))
    (z_super : PySem.W.nsIn K mainGlobals "super" = some none)
    (z_over : PySem.W.nsIn K cStatics "thirdparty.any" = some none)
    (z_top : (l.prog.main.scope.names.lookup ("super" : Str)).isSome = false)
    (xcl_10 : PySem.W.clsIn K C10 = some cdx_10)
    (xcl_9 : PySem.W.clsIn K C9 = some cdx_9)
    (xm_10 : (cdx_10.mro.dropWhile (· != .ref C10)).drop 1 = cdx_9.mro)
    (xfi_9 : PySem.W.findIn K (.ref C9) "__init__" = some (some (.builtin "ValueError.__init__")))
    (x1_10 : K.lookup C10 = some (excClassObj nm_10 qn_10 C10 N_10 bs_10 bm_10 true sn_10 sub_10 ab_10 col_10 dd_10 ka_10 kb_10 kc_10 kd_10 ke_10 "ValueError.__new__"))
    (x2_10 : PySem.HandSPX.refsVE bm_10 = true)
    (x3_10 : PySem.W.findIn K (.ref C10) "__setattr__" = some (some (.builtin "object.__setattr__")))
    (x4_10 : PySem.W.subIn K (.ref C10) (.type "BaseException") = some true)
    (x5_10 : PySem.W.typeIn K (.ref C10) = some (.type "type"))
    (x6_10 : PySem.W.keepIn K (.ref C10) = true)
    (x7_10 : PySem.W.findIn K (.ref C10) "__init__" = some (some (.ref f_LimitExceeded_d_initd_)))
    (x8_10 : PySem.W.typeIn K (.ref f_LimitExceeded_d_initd_) = some (.type "function"))
    (x9_10 : K.lookup f_LimitExceeded_d_initd_ = some ⟨oc_LimitExceeded_d_initd_, od_LimitExceeded_d_initd_, .func (PySem.W.ksFn "__init__" (PySem.Str.ofString "LimitExceeded.__init__") (defArgs st_LimitExceeded_d_initd_) (defBody st_LimitExceeded_d_initd_) (defScope st_LimitExceeded_d_initd_) .none kV_LimitExceeded_d_initd_ dc_LimitExceeded_d_initd_ pm_LimitExceeded_d_initd_ an_LimitExceeded_d_initd_ (.ref cda_LimitExceeded_d_initd_) ct_LimitExceeded_d_initd_ cc_LimitExceeded_d_initd_), sl_LimitExceeded_d_initd_⟩)
    (xa_10 : PySem.W.codeIn K (.ref cda_LimitExceeded_d_initd_) (PySem.Str.ofString "LimitExceeded.__init__") = true)
    (xb_10 : K.lookup cc_LimitExceeded_d_initd_ = some ⟨oc2_LimitExceeded_d_initd_, od2_LimitExceeded_d_initd_, .cell (some (.ref C10)), sl2_LimitExceeded_d_initd_⟩)
    (xd_10 : PySem.W.mroIn K C10 (.ref C10) = some true)
    (xe_10 : PySem.W.mroIn K C10 (.type "ValueError") = some true)
    (xg_10 : K.lookup cda_LimitExceeded_d_initd_ = some ⟨oc3_LimitExceeded_d_initd_, od3_LimitExceeded_d_initd_, .fields vs_LimitExceeded_d_initd_, sl3_LimitExceeded_d_initd_⟩)
    (xh_10 : vs_LimitExceeded_d_initd_[2]? = some (.str file_LimitExceeded_d_initd_ tf_LimitExceeded_d_initd_))
    (xi_10 : ((l.prog.main.file : Str) == file_LimitExceeded_d_initd_) = true)
    (xn_10_limit : PySem.W.findIn K (.ref C10) (PySem.Str.ofString "limit") = some none)
    (xcl_11 : PySem.W.clsIn K C11 = some cdx_11)
    (xm_11 : (cdx_11.mro.dropWhile (· != .ref C11)).drop 1 = cdx_9.mro)
    (x1_11 : K.lookup C11 = some (excClassObj nm_11 qn_11 C11 N_11 bs_11 bm_11 true sn_11 sub_11 ab_11 col_11 dd_11 ka_11 kb_11 kc_11 kd_11 ke_11 "ValueError.__new__"))
    (x2_11 : PySem.HandSPX.refsVE bm_11 = true)
    (x3_11 : PySem.W.findIn K (.ref C11) "__setattr__" = some (some (.builtin "object.__setattr__")))
    (x4_11 : PySem.W.subIn K (.ref C11) (.type "BaseException") = some true)
    (x5_11 : PySem.W.typeIn K (.ref C11) = some (.type "type"))
    (x6_11 : PySem.W.keepIn K (.ref C11) = true)
    (x7_11 : PySem.W.findIn K (.ref C11) "__init__" = some (some (.ref f_UnknownName_d_initd_)))
    (x8_11 : PySem.W.typeIn K (.ref f_UnknownName_d_initd_) = some (.type "function"))
    (x9_11 : K.lookup f_UnknownName_d_initd_ = some ⟨oc_UnknownName_d_initd_, od_UnknownName_d_initd_, .func (PySem.W.ksFn "__init__" (PySem.Str.ofString "UnknownName.__init__") (defArgs st_UnknownName_d_initd_) (defBody st_UnknownName_d_initd_) (defScope st_UnknownName_d_initd_) .none kV_UnknownName_d_initd_ dc_UnknownName_d_initd_ pm_UnknownName_d_initd_ an_UnknownName_d_initd_ (.ref cda_UnknownName_d_initd_) ct_UnknownName_d_initd_ cc_UnknownName_d_initd_), sl_UnknownName_d_initd_⟩)
    (xa_11 : PySem.W.codeIn K (.ref cda_UnknownName_d_initd_) (PySem.Str.ofString "UnknownName.__init__") = true)
    (xb_11 : K.lookup cc_UnknownName_d_initd_ = some ⟨oc2_UnknownName_d_initd_, od2_UnknownName_d_initd_, .cell (some (.ref C11)), sl2_UnknownName_d_initd_⟩)
    (xd_11 : PySem.W.mroIn K C11 (.ref C11) = some true)
    (xe_11 : PySem.W.mroIn K C11 (.type "ValueError") = some true)
    (xg_11 : K.lookup cda_UnknownName_d_initd_ = some ⟨oc3_UnknownName_d_initd_, od3_UnknownName_d_initd_, .fields vs_UnknownName_d_initd_, sl3_UnknownName_d_initd_⟩)
    (xh_11 : vs_UnknownName_d_initd_[2]? = some (.str file_UnknownName_d_initd_ tf_UnknownName_d_initd_))
    (xi_11 : ((l.prog.main.file : Str) == file_UnknownName_d_initd_) = true)
    (xn_11_name : PySem.W.findIn K (.ref C11) (PySem.Str.ofString "name") = some none)
    (xcl_12 : PySem.W.clsIn K C12 = some cdx_12)
    (xm_12 : (cdx_12.mro.dropWhile (· != .ref C12)).drop 1 = cdx_9.mro)
    (x1_12 : K.lookup C12 = some (excClassObj nm_12 qn_12 C12 N_12 bs_12 bm_12 true sn_12 sub_12 ab_12 col_12 dd_12 ka_12 kb_12 kc_12 kd_12 ke_12 "ValueError.__new__"))
    (x2_12 : PySem.HandSPX.refsVE bm_12 = true)
    (x3_12 : PySem.W.findIn K (.ref C12) "__setattr__" = some (some (.builtin "object.__setattr__")))
    (x4_12 : PySem.W.subIn K (.ref C12) (.type "BaseException") = some true)
    (x5_12 : PySem.W.typeIn K (.ref C12) = some (.type "type"))
    (x6_12 : PySem.W.keepIn K (.ref C12) = true)
    (x7_12 : PySem.W.findIn K (.ref C12) "__init__" = some (some (.ref f_BadGrammar_d_initd_)))
    (x8_12 : PySem.W.typeIn K (.ref f_BadGrammar_d_initd_) = some (.type "function"))
    (x9_12 : K.lookup f_BadGrammar_d_initd_ = some ⟨oc_BadGrammar_d_initd_, od_BadGrammar_d_initd_, .func (PySem.W.ksFn "__init__" (PySem.Str.ofString "BadGrammar.__init__") (defArgs st_BadGrammar_d_initd_) (defBody st_BadGrammar_d_initd_) (defScope st_BadGrammar_d_initd_) .none kV_BadGrammar_d_initd_ dc_BadGrammar_d_initd_ pm_BadGrammar_d_initd_ an_BadGrammar_d_initd_ (.ref cda_BadGrammar_d_initd_) ct_BadGrammar_d_initd_ cc_BadGrammar_d_initd_), sl_BadGrammar_d_initd_⟩)
    (xa_12 : PySem.W.codeIn K (.ref cda_BadGrammar_d_initd_) (PySem.Str.ofString "BadGrammar.__init__") = true)
    (xb_12 : K.lookup cc_BadGrammar_d_initd_ = some ⟨oc2_BadGrammar_d_initd_, od2_BadGrammar_d_initd_, .cell (some (.ref C12)), sl2_BadGrammar_d_initd_⟩)
    (xd_12 : PySem.W.mroIn K C12 (.ref C12) = some true)
    (xe_12 : PySem.W.mroIn K C12 (.type "ValueError") = some true)
    (xg_12 : K.lookup cda_BadGrammar_d_initd_ = some ⟨oc3_BadGrammar_d_initd_, od3_BadGrammar_d_initd_, .fields vs_BadGrammar_d_initd_, sl3_BadGrammar_d_initd_⟩)
    (xh_12 : vs_BadGrammar_d_initd_[2]? = some (.str file_BadGrammar_d_initd_ tf_BadGrammar_d_initd_))
    (xi_12 : ((l.prog.main.file : Str) == file_BadGrammar_d_initd_) = true)
    (xn_12_part : PySem.W.findIn K (.ref C12) (PySem.Str.ofString "part") = some none)
    (xhd_10 : PySem.W.hasDictIn K C10 = true)
    (su_11_10 : PySem.W.subIn K (.ref C11) (.ref C10) = some false)
    (su_10_10 : PySem.W.subIn K (.ref C10) (.ref C10) = some true)
    (xhd_11 : PySem.W.hasDictIn K C11 = true)
    (su_11_11 : PySem.W.subIn K (.ref C11) (.ref C11) = some true)
    (su_10_11 : PySem.W.subIn K (.ref C10) (.ref C11) = some false)
    (xga_10 : PySem.W.findIn K (.ref C10) "__getattribute__" = some (some (.builtin "BaseException.__getattribute__")))
    (xgg_10 : PySem.W.findIn K (.ref C10) "__getattr__" = some none)
    (is1_10 : PySem.W.findIn K (.ref C10) "__class__" = some (some (.builtin "object.__class__")))
    (is3_10 : PySem.W.mroIn K C10 (.type "object") = some true)
    (is5_10 : PySem.W.specialIn K (.builtin "object.__class__") "__get__" = some (some (.builtin "getset_descriptor.__get__")))
    (is6_10 : PySem.W.takesIn K (.builtin "object.__class__") = some true)
    (x4_9 : PySem.W.subIn K (.ref C9) (.type "BaseException") = some true)
    (x5_9 : PySem.W.typeIn K (.ref C9) = some (.type "type"))
    (xhd_9 : PySem.W.hasDictIn K C9 = true)
    (su_10_9 : PySem.W.subIn K (.ref C10) (.ref C9) = some true)
    (ne_10_11 : C10 ≠ C11)
    (xga_11 : PySem.W.findIn K (.ref C11) "__getattribute__" = some (some (.builtin "BaseException.__getattribute__")))
    (xgg_11 : PySem.W.findIn K (.ref C11) "__getattr__" = some none)
    (is1_11 : PySem.W.findIn K (.ref C11) "__class__" = some (some (.builtin "object.__class__")))
    (is3_11 : PySem.W.mroIn K C11 (.type "object") = some true)
    (is5_11 : PySem.W.specialIn K (.builtin "object.__class__") "__get__" = some (some (.builtin "getset_descriptor.__get__")))
    (is6_11 : PySem.W.takesIn K (.builtin "object.__class__") = some true)
    (su_11_9 : PySem.W.subIn K (.ref C11) (.ref C9) = some true)
    (st_11_ValueError : PySem.W.subIn K (.ref C11) (.type "ValueError") = some true)
    (z_int : PySem.W.nsIn K mainGlobals (PySem.Str.ofString "int") = some none)
    (z_sum : PySem.W.nsIn K mainGlobals (PySem.Str.ofString "sum") = some none)
    (z_len : PySem.W.nsIn K mainGlobals (PySem.Str.ofString "len") = some none)
    (z_range : PySem.W.nsIn K mainGlobals (PySem.Str.ofString "range") = some none)
    (rna_2_8 : PySem.W.findIn K (.ref C2) (PySem.Str.ofString "grammar") = some none)
    (z_list : PySem.W.nsIn K mainGlobals (PySem.Str.ofString "list") = some none)
    (z_tuple : PySem.W.nsIn K mainGlobals (PySem.Str.ofString "tuple") = some none)
    (rna_2_9 : PySem.W.findIn K (.ref C2) (PySem.Str.ofString "names") = some none)
    (rna_2_10 : PySem.W.findIn K (.ref C2) (PySem.Str.ofString "_ignored") = some none)
    (rna_2_11 : PySem.W.findIn K (.ref C2) (PySem.Str.ofString "_bodies") = some none)
    (rd2 : PySem.W.readsIn K C2 (.type "type") = true)
    (ga2 : PySem.W.specialIn K (.ref C2) "__getattribute__" = some (some (.builtin "type.__getattribute__")))
    (rcc_2_MOST_WALKS : PySem.W.findCls K (.ref C2) (.type "type") (PySem.Str.ofString "MOST_WALKS") = some (.val (.int 6 tk_cc_2_MOST_WALKS)))
    (rd1 : PySem.W.readsIn K C1 (.type "type") = true)
    (ga1 : PySem.W.specialIn K (.ref C1) "__getattribute__" = some (some (.builtin "type.__getattribute__")))
    (rcc_1_MOST_FIELDS : PySem.W.findCls K (.ref C1) (.type "type") (PySem.Str.ofString "MOST_FIELDS") = some (.val (.int 6 tk_cc_1_MOST_FIELDS)))
    (z_set : PySem.W.nsIn K mainGlobals (PySem.Str.ofString "set") = some none)
    (rcc_1_MOST_KINDS : PySem.W.findCls K (.ref C1) (.type "type") (PySem.Str.ofString "MOST_KINDS") = some (.val (.int 8 tk_cc_1_MOST_KINDS)))
    (rcc_1_MOST_CHILDREN : PySem.W.findCls K (.ref C1) (.type "type") (PySem.Str.ofString "MOST_CHILDREN") = some (.val (.int 3 tk_cc_1_MOST_CHILDREN)))
    (rcc_1_MOST_FAMILIES : PySem.W.findCls K (.ref C1) (.type "type") (PySem.Str.ofString "MOST_FAMILIES") = some (.val (.int 3 tk_cc_1_MOST_FAMILIES)))
    (z_all : PySem.W.nsIn K mainGlobals (PySem.Str.ofString "all") = some none)
    (rna_1_1 : PySem.W.findIn K (.ref C1) (PySem.Str.ofString "fields") = some none)
    (rna_1_2 : PySem.W.findIn K (.ref C1) (PySem.Str.ofString "kinds") = some none)
    (rna_1_3 : PySem.W.findIn K (.ref C1) (PySem.Str.ofString "_families") = some none)
    (rna_1_4 : PySem.W.findIn K (.ref C1) (PySem.Str.ofString "_children") = some none)
    (rna_1_5 : PySem.W.findIn K (.ref C1) (PySem.Str.ofString "families") = some none)
    (rna_1_6 : PySem.W.findIn K (.ref C1) (PySem.Str.ofString "root") = some none)
    (rna_1_7 : PySem.W.findIn K (.ref C1) (PySem.Str.ofString "_sizes") = some none)
    (rcc_2_MOST_NAMES : PySem.W.findCls K (.ref C2) (.type "type") (PySem.Str.ofString "MOST_NAMES") = some (.val (.int 6 tk_cc_2_MOST_NAMES)))
    (z_isinstance : PySem.W.nsIn K mainGlobals (PySem.Str.ofString "isinstance") = some none)
    (z_ValueError : PySem.W.nsIn K mainGlobals (PySem.Str.ofString "ValueError") = some none)
    (l_law_source : K.lookup f_law_source = some ⟨oc_law_source, od_law_source, .func (PySem.W.fnOf (PySem.Str.ofString "_law_source") (PySem.Str.ofString "_law_source") (defArgs st_law_source) (defBody st_law_source) (defScope st_law_source) .none kV_law_source dc_law_source pm_law_source an_law_source cd_law_source ct_law_source), sl_law_source⟩)
    (c_law_source : PySem.W.codeIn K cd_law_source (PySem.Str.ofString "_law_source") = true)
    (k_law_source : PySem.W.keepIn K (.ref f_law_source) = true)
    (a_law_source : PySem.W.nsIn K mainGlobals (PySem.Str.ofString "_law_source") = some (some (.ref f_law_source)))
    (l_law_draw : K.lookup f_law_draw = some ⟨oc_law_draw, od_law_draw, .func (PySem.W.fnOf (PySem.Str.ofString "_law_draw") (PySem.Str.ofString "_law_draw") (defArgs st_law_draw) (defBody st_law_draw) (defScope st_law_draw) .none kV_law_draw dc_law_draw pm_law_draw an_law_draw cd_law_draw ct_law_draw), sl_law_draw⟩)
    (c_law_draw : PySem.W.codeIn K cd_law_draw (PySem.Str.ofString "_law_draw") = true)
    (k_law_draw : PySem.W.keepIn K (.ref f_law_draw) = true)
    (a_law_draw : PySem.W.nsIn K mainGlobals (PySem.Str.ofString "_law_draw") = some (some (.ref f_law_draw)))
    (l_law_names : K.lookup f_law_names = some ⟨oc_law_names, od_law_names, .func (PySem.W.fnOf (PySem.Str.ofString "_law_names") (PySem.Str.ofString "_law_names") (defArgs st_law_names) (defBody st_law_names) (defScope st_law_names) .none kV_law_names dc_law_names pm_law_names an_law_names cd_law_names ct_law_names), sl_law_names⟩)
    (c_law_names : PySem.W.codeIn K cd_law_names (PySem.Str.ofString "_law_names") = true)
    (k_law_names : PySem.W.keepIn K (.ref f_law_names) = true)
    (a_law_names : PySem.W.nsIn K mainGlobals (PySem.Str.ofString "_law_names") = some (some (.ref f_law_names)))
    (l_Program_d_initd_ : K.lookup f_Program_d_initd_ = some ⟨oc_Program_d_initd_, od_Program_d_initd_, .func (PySem.W.fnOf (PySem.Str.ofString "__init__") (PySem.Str.ofString "Program.__init__") (defArgs st_Program_d_initd_) (defBody st_Program_d_initd_) (defScope st_Program_d_initd_) .none kV_Program_d_initd_ dc_Program_d_initd_ pm_Program_d_initd_ an_Program_d_initd_ cd_Program_d_initd_ ct_Program_d_initd_), sl_Program_d_initd_⟩)
    (c_Program_d_initd_ : PySem.W.codeIn K cd_Program_d_initd_ (PySem.Str.ofString "Program.__init__") = true)
    (k_Program_d_initd_ : PySem.W.keepIn K (.ref f_Program_d_initd_) = true)
    (a_Program_d_initd_ : PySem.W.findIn K (.ref C2) (PySem.Str.ofString "__init__") = some (some (.ref f_Program_d_initd_)))
    (i_Program_d_initd_ : PySem.W.isFn K (.ref f_Program_d_initd_) = true)
    (l_Grammar_check_names : K.lookup f_Grammar_check_names = some ⟨oc_Grammar_check_names, od_Grammar_check_names, .func (PySem.W.fnOf (PySem.Str.ofString "_check_names") (PySem.Str.ofString "Grammar._check_names") (defArgs st_Grammar_check_names) (defBody st_Grammar_check_names) (defScope st_Grammar_check_names) .none kV_Grammar_check_names dc_Grammar_check_names pm_Grammar_check_names an_Grammar_check_names cd_Grammar_check_names ct_Grammar_check_names), sl_Grammar_check_names⟩)
    (c_Grammar_check_names : PySem.W.codeIn K cd_Grammar_check_names (PySem.Str.ofString "Grammar._check_names") = true)
    (k_Grammar_check_names : PySem.W.keepIn K (.ref f_Grammar_check_names) = true)
    (a_Grammar_check_names : PySem.W.findIn K (.ref C1) (PySem.Str.ofString "_check_names") = some (some (.ref f_Grammar_check_names)))
    (i_Grammar_check_names : PySem.W.isFn K (.ref f_Grammar_check_names) = true)
    (l_Grammar_check_families : K.lookup f_Grammar_check_families = some ⟨oc_Grammar_check_families, od_Grammar_check_families, .func (PySem.W.fnOf (PySem.Str.ofString "_check_families") (PySem.Str.ofString "Grammar._check_families") (defArgs st_Grammar_check_families) (defBody st_Grammar_check_families) (defScope st_Grammar_check_families) .none kV_Grammar_check_families dc_Grammar_check_families pm_Grammar_check_families an_Grammar_check_families cd_Grammar_check_families ct_Grammar_check_families), sl_Grammar_check_families⟩)
    (c_Grammar_check_families : PySem.W.codeIn K cd_Grammar_check_families (PySem.Str.ofString "Grammar._check_families") = true)
    (k_Grammar_check_families : PySem.W.keepIn K (.ref f_Grammar_check_families) = true)
    (a_Grammar_check_families : PySem.W.findIn K (.ref C1) (PySem.Str.ofString "_check_families") = some (some (.ref f_Grammar_check_families)))
    (i_Grammar_check_families : PySem.W.isFn K (.ref f_Grammar_check_families) = true)
    (l_Grammar_least_sizes : K.lookup f_Grammar_least_sizes = some ⟨oc_Grammar_least_sizes, od_Grammar_least_sizes, .func (PySem.W.fnOf (PySem.Str.ofString "_least_sizes") (PySem.Str.ofString "Grammar._least_sizes") (defArgs st_Grammar_least_sizes) (defBody st_Grammar_least_sizes) (defScope st_Grammar_least_sizes) .none kV_Grammar_least_sizes dc_Grammar_least_sizes pm_Grammar_least_sizes an_Grammar_least_sizes cd_Grammar_least_sizes ct_Grammar_least_sizes), sl_Grammar_least_sizes⟩)
    (c_Grammar_least_sizes : PySem.W.codeIn K cd_Grammar_least_sizes (PySem.Str.ofString "Grammar._least_sizes") = true)
    (k_Grammar_least_sizes : PySem.W.keepIn K (.ref f_Grammar_least_sizes) = true)
    (a_Grammar_least_sizes : PySem.W.findIn K (.ref C1) (PySem.Str.ofString "_least_sizes") = some (some (.ref f_Grammar_least_sizes)))
    (i_Grammar_least_sizes : PySem.W.isFn K (.ref f_Grammar_least_sizes) = true)
    (kw_Grammar_d_initd_ : PySem.W.nsIn K kD_Grammar_d_initd_ (PySem.Str.ofString "root") = some (some .none))
    (l_Grammar_d_initd_ : K.lookup f_Grammar_d_initd_ = some ⟨oc_Grammar_d_initd_, od_Grammar_d_initd_, .func (PySem.W.fnOf (PySem.Str.ofString "__init__") (PySem.Str.ofString "Grammar.__init__") (defArgs st_Grammar_d_initd_) (defBody st_Grammar_d_initd_) (defScope st_Grammar_d_initd_) .none (.ref kD_Grammar_d_initd_) dc_Grammar_d_initd_ pm_Grammar_d_initd_ an_Grammar_d_initd_ cd_Grammar_d_initd_ ct_Grammar_d_initd_), sl_Grammar_d_initd_⟩)
    (c_Grammar_d_initd_ : PySem.W.codeIn K cd_Grammar_d_initd_ (PySem.Str.ofString "Grammar.__init__") = true)
    (k_Grammar_d_initd_ : PySem.W.keepIn K (.ref f_Grammar_d_initd_) = true)
    (a_Grammar_d_initd_ : PySem.W.findIn K (.ref C1) (PySem.Str.ofString "__init__") = some (some (.ref f_Grammar_d_initd_)))
    (i_Grammar_d_initd_ : PySem.W.isFn K (.ref f_Grammar_d_initd_) = true)
    (l_law_due : K.lookup f_law_due = some ⟨oc_law_due, od_law_due, .func (PySem.W.fnOf (PySem.Str.ofString "_law_due") (PySem.Str.ofString "_law_due") (defArgs st_law_due) (defBody st_law_due) (defScope st_law_due) .none kV_law_due dc_law_due pm_law_due an_law_due cd_law_due ct_law_due), sl_law_due⟩)
    (c_law_due : PySem.W.codeIn K cd_law_due (PySem.Str.ofString "_law_due") = true)
    (k_law_due : PySem.W.keepIn K (.ref f_law_due) = true)
    (a_law_due : PySem.W.nsIn K mainGlobals (PySem.Str.ofString "_law_due") = some (some (.ref f_law_due)))
    (l_Program_row : K.lookup f_Program_row = some ⟨oc_Program_row, od_Program_row, .func (PySem.W.fnOf (PySem.Str.ofString "row") (PySem.Str.ofString "Program.row") (defArgs st_Program_row) (defBody st_Program_row) (defScope st_Program_row) .none kV_Program_row dc_Program_row pm_Program_row an_Program_row cd_Program_row ct_Program_row), sl_Program_row⟩)
    (c_Program_row : PySem.W.codeIn K cd_Program_row (PySem.Str.ofString "Program.row") = true)
    (k_Program_row : PySem.W.keepIn K (.ref f_Program_row) = true)
    (a_Program_row : PySem.W.findIn K (.ref C2) (PySem.Str.ofString "row") = some (some (.ref f_Program_row)))
    (i_Program_row : PySem.W.isFn K (.ref f_Program_row) = true)
    (l_law_told : K.lookup f_law_told = some ⟨oc_law_told, od_law_told, .func (PySem.W.fnOf (PySem.Str.ofString "_law_told") (PySem.Str.ofString "_law_told") (defArgs st_law_told) (defBody st_law_told) (defScope st_law_told) .none kV_law_told dc_law_told pm_law_told an_law_told cd_law_told ct_law_told), sl_law_told⟩)
    (c_law_told : PySem.W.codeIn K cd_law_told (PySem.Str.ofString "_law_told") = true)
    (k_law_told : PySem.W.keepIn K (.ref f_law_told) = true)
    (a_law_told : PySem.W.nsIn K mainGlobals (PySem.Str.ofString "_law_told") = some (some (.ref f_law_told)))
    (l_law : K.lookup f_law = some ⟨oc_law, od_law, .func (PySem.W.fnOf (PySem.Str.ofString "law") (PySem.Str.ofString "law") (defArgs st_law) (defBody st_law) (defScope st_law) .none kV_law dc_law pm_law an_law cd_law ct_law), sl_law⟩)
    (c_law : PySem.W.codeIn K cd_law (PySem.Str.ofString "law") = true)
    (k_law : PySem.W.keepIn K (.ref f_law) = true)
    (a_law : PySem.W.nsIn K mainGlobals (PySem.Str.ofString "law") = some (some (.ref f_law))) :
    ∃ fd : FuncData, (∀ (s : Shared) (v : Value), BindsTo s fd ⟨[v], []⟩ [("_law_script", v)]) ∧ ∀ base : Heap, K.In base → base.Ns mainGlobals mg → FnOk l.prog w K mg base (L2.CX l.prog w) 6 fa fd ["_law_script"] (spLaw K) := by
  have e := hfa.symm.trans (PySem.W.mg_of X0 G0 a_law)
  cases e
  refine ⟨PySem.W.fnOf "law" "law" (defArgs st_law) (defBody st_law) (defScope st_law) .none kV_law dc_law pm_law an_law cd_law ct_law, fun s v => .of_eq rfl, fun base X G => ?hok⟩
  case hok =>
    have hC1 : (tb l.prog w K C1 C2 C9 C10 C11 C12).CT[1]? = some C1 := rfl
    have mC1 : mg (PySem.Str.ofString "Grammar") = some (.ref C1) := PySem.W.mg_of X G aC1
    have cl1 : Cls K C1 := ⟨pg1, hd1, po1, sa1⟩
    have hC2 : (tb l.prog w K C1 C2 C9 C10 C11 C12).CT[2]? = some C2 := rfl
    have mC2 : mg (PySem.Str.ofString "Program") = some (.ref C2) := PySem.W.mg_of X G aC2
    have cl2 : Cls K C2 := ⟨pg2, hd2, po2, sa2⟩
    have hC9 : (tb l.prog w K C1 C2 C9 C10 C11 C12).CT[9]? = some C9 := rfl
    have mC9 : mg (PySem.Str.ofString "WalkError") = some (.ref C9) := PySem.W.mg_of X G aC9
    have hC10 : (tb l.prog w K C1 C2 C9 C10 C11 C12).CT[10]? = some C10 := rfl
    have mC10 : mg (PySem.Str.ofString "LimitExceeded") = some (.ref C10) := PySem.W.mg_of X G aC10
    have hC11 : (tb l.prog w K C1 C2 C9 C10 C11 C12).CT[11]? = some C11 := rfl
    have mC11 : mg (PySem.Str.ofString "UnknownName") = some (.ref C11) := PySem.W.mg_of X G aC11
    have hC12 : (tb l.prog w K C1 C2 C9 C10 C11 C12).CT[12]? = some C12 := rfl
    have mC12 : mg (PySem.Str.ofString "BadGrammar") = some (.ref C12) := PySem.W.mg_of X G aC12
    have ft_1 : (tb l.prog w K C1 C2 C9 C10 C11 C12).FT[1]? = some (PySem.Str.ofString "fields") := rfl
    have ft_2 : (tb l.prog w K C1 C2 C9 C10 C11 C12).FT[2]? = some (PySem.Str.ofString "kinds") := rfl
    have ft_3 : (tb l.prog w K C1 C2 C9 C10 C11 C12).FT[3]? = some (PySem.Str.ofString "_families") := rfl
    have ft_4 : (tb l.prog w K C1 C2 C9 C10 C11 C12).FT[4]? = some (PySem.Str.ofString "_children") := rfl
    have ft_5 : (tb l.prog w K C1 C2 C9 C10 C11 C12).FT[5]? = some (PySem.Str.ofString "families") := rfl
    have ft_6 : (tb l.prog w K C1 C2 C9 C10 C11 C12).FT[6]? = some (PySem.Str.ofString "root") := rfl
    have ft_7 : (tb l.prog w K C1 C2 C9 C10 C11 C12).FT[7]? = some (PySem.Str.ofString "_sizes") := rfl
    have ft_8 : (tb l.prog w K C1 C2 C9 C10 C11 C12).FT[8]? = some (PySem.Str.ofString "grammar") := rfl
    have ft_9 : (tb l.prog w K C1 C2 C9 C10 C11 C12).FT[9]? = some (PySem.Str.ofString "names") := rfl
    have ft_10 : (tb l.prog w K C1 C2 C9 C10 C11 C12).FT[10]? = some (PySem.Str.ofString "_ignored") := rfl
    have ft_11 : (tb l.prog w K C1 C2 C9 C10 C11 C12).FT[11]? = some (PySem.Str.ofString "_bodies") := rfl
    have ft_35 : (tb l.prog w K C1 C2 C9 C10 C11 C12).FT[35]? = some (PySem.Str.ofString "limit") := rfl
    have ft_36 : (tb l.prog w K C1 C2 C9 C10 C11 C12).FT[36]? = some (PySem.Str.ofString "name") := rfl
    have hT : TW l.prog w (tb l.prog w K C1 C2 C9 C10 C11 C12) := ⟨rfl, rfl⟩
    have hX : (tb l.prog w K C1 C2 C9 C10 C11 C12).ex = none := rfl
    have m_super : mg "super" = none := PySem.W.mg_none_of X G z_super
    have ox_10 : OexC K C10 := ⟨⟨_, _, _, _, _, _, _, _, _, _, _, _, _, _, _, x1_10, x2_10⟩, x3_10, x4_10, x5_10, x6_10⟩
    have xc_10 : XcG l.prog w (tb l.prog w K C1 C2 C9 C10 C11 C12) mg base 1 (PySem.Str.ofString "LimitExceeded") 10 [35] (some 0) := xcg_of (names := [(PySem.Str.ofString "limit")]) hC10 mC10 x7_10 x8_10 rfl x9_10 xa_10 sc_LimitExceeded_d_initd_ rfl ⟨ox_10, ⟨_, xb_10, rfl⟩, z_over, sup_of xcl_10 xcl_9 xm_10 xfi_9, xd_10, xe_10, ⟨_, _, _, _, _, rfl, xg_10, rfl, xh_10, xi_10⟩, z_top⟩ m_super rfl rfl rfl (by decide) (by decide) rfl (fun n hn => by simp only [List.mem_cons, List.not_mem_nil, or_false] at hn; subst hn; assumption) (by decide +kernel) (fun A outer s H E => (pss_cons (ps_ost (pe_var (i := 0) rfl (Or.inl rfl)) (pe_var (i := 1) rfl (Or.inl rfl))) pss_nil)) (fun A outer s H E => (pa_msg1 (i := 0))) (fun us hl => match us, hl with | [_, _], _ => rfl) _
    have ox_11 : OexC K C11 := ⟨⟨_, _, _, _, _, _, _, _, _, _, _, _, _, _, _, x1_11, x2_11⟩, x3_11, x4_11, x5_11, x6_11⟩
    have xc_11 : XcG l.prog w (tb l.prog w K C1 C2 C9 C10 C11 C12) mg base 1 (PySem.Str.ofString "UnknownName") 11 [36] (some 0) := xcg_of (names := [(PySem.Str.ofString "name")]) hC11 mC11 x7_11 x8_11 rfl x9_11 xa_11 sc_UnknownName_d_initd_ rfl ⟨ox_11, ⟨_, xb_11, rfl⟩, z_over, sup_of xcl_11 xcl_9 xm_11 xfi_9, xd_11, xe_11, ⟨_, _, _, _, _, rfl, xg_11, rfl, xh_11, xi_11⟩, z_top⟩ m_super rfl rfl rfl (by decide) (by decide) rfl (fun n hn => by simp only [List.mem_cons, List.not_mem_nil, or_false] at hn; subst hn; assumption) (by decide +kernel) (fun A outer s H E => (pss_cons (ps_ost (pe_var (i := 0) rfl (Or.inl rfl)) (pe_var (i := 1) rfl (Or.inl rfl))) pss_nil)) (fun A outer s H E => (pa_msg1 (i := 0))) (fun us hl => match us, hl with | [_, _], _ => rfl) _
    have ox_12 : OexC K C12 := ⟨⟨_, _, _, _, _, _, _, _, _, _, _, _, _, _, _, x1_12, x2_12⟩, x3_12, x4_12, x5_12, x6_12⟩
    have xc_12 : XcG l.prog w (tb l.prog w K C1 C2 C9 C10 C11 C12) mg base 1 (PySem.Str.ofString "BadGrammar") 12 [37] (some 0) := xcg_of (names := [(PySem.Str.ofString "part")]) hC12 mC12 x7_12 x8_12 rfl x9_12 xa_12 sc_BadGrammar_d_initd_ rfl ⟨ox_12, ⟨_, xb_12, rfl⟩, z_over, sup_of xcl_12 xcl_9 xm_12 xfi_9, xd_12, xe_12, ⟨_, _, _, _, _, rfl, xg_12, rfl, xh_12, xi_12⟩, z_top⟩ m_super rfl rfl rfl (by decide) (by decide) rfl (fun n hn => by simp only [List.mem_cons, List.not_mem_nil, or_false] at hn; subst hn; assumption) (by decide +kernel) (fun A outer s H E => (pss_cons (ps_ost (pe_var (i := 0) rfl (Or.inl rfl)) (pe_var (i := 1) rfl (Or.inl rfl))) pss_nil)) (fun A outer s H E => (pa_msg1 (i := 0))) (fun us hl => match us, hl with | [_, _], _ => rfl) _
    have sb_LimitExceeded : SbG (tb l.prog w K C1 C2 C9 C10 C11 C12) mg (PySem.Str.ofString "LimitExceeded") [(10, true), (11, false)] := ⟨C10, mC10, (subg_cons hC10 (PySem.W.exm_ref x4_10 xhd_10 x5_10 su_10_10) (subg_cons hC11 (PySem.W.exm_ref x4_10 xhd_10 x5_10 su_11_10) subg_nil))⟩
    have sb_UnknownName : SbG (tb l.prog w K C1 C2 C9 C10 C11 C12) mg (PySem.Str.ofString "UnknownName") [(10, false), (11, true)] := ⟨C11, mC11, (subg_cons hC10 (PySem.W.exm_ref x4_11 xhd_11 x5_11 su_10_11) (subg_cons hC11 (PySem.W.exm_ref x4_11 xhd_11 x5_11 su_11_11) subg_nil))⟩
    have ie_LimitExceeded_WalkError : IeG (tb l.prog w K C1 C2 C9 C10 C11 C12) mg [(10, true), (11, false)] (PySem.Str.ofString "WalkError") [(10, true)] := ⟨C9, mC9, ieg_of (ong_yes hC10 ⟨⟨(xf_of xga_10 xgg_10 x4_10 xhd_10), is1_10, is5_10, is6_10, is3_10⟩, fun b hb => by have : b = true := (Option.some.inj (hb.symm.trans (by rfl))); subst this; exact (kit_own xcl_9 x5_9 su_10_9 (fun _ => rfl))⟩ (ong_no ong_nil))⟩
    have ie_LimitExceeded_UnknownName : IeG (tb l.prog w K C1 C2 C9 C10 C11 C12) mg [(10, true), (11, false)] (PySem.Str.ofString "UnknownName") [(10, false)] := ⟨C11, mC11, ieg_of (ong_yes hC10 ⟨⟨(xf_of xga_10 xgg_10 x4_10 xhd_10), is1_10, is5_10, is6_10, is3_10⟩, fun b hb => by have : b = false := (Option.some.inj (hb.symm.trans (by rfl))); subst this; exact (kit_own xcl_11 x5_11 su_10_11 (fun e => absurd e ne_10_11))⟩ (ong_no ong_nil))⟩
    have xf_LimitExceeded_limit : XfG (tb l.prog w K C1 C2 C9 C10 C11 C12) [(10, true), (11, false)] (PySem.Str.ofString "limit") := xfg_of (ong_yes hC10 ⟨(xf_of xga_10 xgg_10 x4_10 xhd_10), xn_10_limit⟩ (ong_no ong_nil))
    have ie_UnknownName_WalkError : IeG (tb l.prog w K C1 C2 C9 C10 C11 C12) mg [(10, false), (11, true)] (PySem.Str.ofString "WalkError") [(11, true)] := ⟨C9, mC9, ieg_of (ong_no (ong_yes hC11 ⟨⟨(xf_of xga_11 xgg_11 x4_11 xhd_11), is1_11, is5_11, is6_11, is3_11⟩, fun b hb => by have : b = true := (Option.some.inj (hb.symm.trans (by rfl))); subst this; exact (kit_own xcl_9 x5_9 su_11_9 (fun _ => rfl))⟩ ong_nil))⟩
    have ie_UnknownName_ValueError : IsEG (tb l.prog w K C1 C2 C9 C10 C11 C12) [(10, false), (11, true)] (.type "ValueError") [(11, true)] := ieg_of (ong_no (ong_yes hC11 ⟨⟨(xf_of xga_11 xgg_11 x4_11 xhd_11), is1_11, is5_11, is6_11, is3_11⟩, fun b hb => by have : b = true := (Option.some.inj (hb.symm.trans (by rfl))); subst this; exact (kit_typ (by decide +kernel) st_11_ValueError)⟩ ong_nil))
    have xf_UnknownName_name : XfG (tb l.prog w K C1 C2 C9 C10 C11 C12) [(10, false), (11, true)] (PySem.Str.ofString "name") := xfg_of (ong_no (ong_yes hC11 ⟨(xf_of xga_11 xgg_11 x4_11 xhd_11), xn_11_name⟩ ong_nil))
    have m_int : mg (PySem.Str.ofString "int") = none := PySem.W.mg_none_of X G z_int
    have m_sum : mg (PySem.Str.ofString "sum") = none := PySem.W.mg_none_of X G z_sum
    have m_len : mg (PySem.Str.ofString "len") = none := PySem.W.mg_none_of X G z_len
    have m_range : mg (PySem.Str.ofString "range") = none := PySem.W.mg_none_of X G z_range
    have na_2_8 : NaG (tb l.prog w K C1 C2 C9 C10 C11 C12) 2 8 (PySem.Str.ofString "grammar") := ⟨C2, hC2, ft_8, rna_2_8⟩
    have m_list : mg (PySem.Str.ofString "list") = none := PySem.W.mg_none_of X G z_list
    have m_tuple : mg (PySem.Str.ofString "tuple") = none := PySem.W.mg_none_of X G z_tuple
    have na_2_9 : NaG (tb l.prog w K C1 C2 C9 C10 C11 C12) 2 9 (PySem.Str.ofString "names") := ⟨C2, hC2, ft_9, rna_2_9⟩
    have na_2_10 : NaG (tb l.prog w K C1 C2 C9 C10 C11 C12) 2 10 (PySem.Str.ofString "_ignored") := ⟨C2, hC2, ft_10, rna_2_10⟩
    have na_2_11 : NaG (tb l.prog w K C1 C2 C9 C10 C11 C12) 2 11 (PySem.Str.ofString "_bodies") := ⟨C2, hC2, ft_11, rna_2_11⟩
    have cc_2_MOST_WALKS : CcG (tb l.prog w K C1 C2 C9 C10 C11 C12) mg (PySem.Str.ofString "Program") (PySem.Str.ofString "MOST_WALKS") 6 := ⟨C2, _, mC2, ⟨rd2, ga2⟩, rcc_2_MOST_WALKS⟩
    have cc_1_MOST_FIELDS : CcG (tb l.prog w K C1 C2 C9 C10 C11 C12) mg (PySem.Str.ofString "Grammar") (PySem.Str.ofString "MOST_FIELDS") 6 := ⟨C1, _, mC1, ⟨rd1, ga1⟩, rcc_1_MOST_FIELDS⟩
    have m_set : mg (PySem.Str.ofString "set") = none := PySem.W.mg_none_of X G z_set
    have cc_1_MOST_KINDS : CcG (tb l.prog w K C1 C2 C9 C10 C11 C12) mg (PySem.Str.ofString "Grammar") (PySem.Str.ofString "MOST_KINDS") 8 := ⟨C1, _, mC1, ⟨rd1, ga1⟩, rcc_1_MOST_KINDS⟩
    have cc_1_MOST_CHILDREN : CcG (tb l.prog w K C1 C2 C9 C10 C11 C12) mg (PySem.Str.ofString "Grammar") (PySem.Str.ofString "MOST_CHILDREN") 3 := ⟨C1, _, mC1, ⟨rd1, ga1⟩, rcc_1_MOST_CHILDREN⟩
    have cc_1_MOST_FAMILIES : CcG (tb l.prog w K C1 C2 C9 C10 C11 C12) mg (PySem.Str.ofString "Grammar") (PySem.Str.ofString "MOST_FAMILIES") 3 := ⟨C1, _, mC1, ⟨rd1, ga1⟩, rcc_1_MOST_FAMILIES⟩
    have m_all : mg (PySem.Str.ofString "all") = none := PySem.W.mg_none_of X G z_all
    have na_1_1 : NaG (tb l.prog w K C1 C2 C9 C10 C11 C12) 1 1 (PySem.Str.ofString "fields") := ⟨C1, hC1, ft_1, rna_1_1⟩
    have na_1_2 : NaG (tb l.prog w K C1 C2 C9 C10 C11 C12) 1 2 (PySem.Str.ofString "kinds") := ⟨C1, hC1, ft_2, rna_1_2⟩
    have na_1_3 : NaG (tb l.prog w K C1 C2 C9 C10 C11 C12) 1 3 (PySem.Str.ofString "_families") := ⟨C1, hC1, ft_3, rna_1_3⟩
    have na_1_4 : NaG (tb l.prog w K C1 C2 C9 C10 C11 C12) 1 4 (PySem.Str.ofString "_children") := ⟨C1, hC1, ft_4, rna_1_4⟩
    have nf__check_names : (PySem.Str.ofString "_check_names") ∉ (tb l.prog w K C1 C2 C9 C10 C11 C12).FT := (by decide +kernel : (PySem.Str.ofString "_check_names") ∉ FTs)
    have na_1_5 : NaG (tb l.prog w K C1 C2 C9 C10 C11 C12) 1 5 (PySem.Str.ofString "families") := ⟨C1, hC1, ft_5, rna_1_5⟩
    have na_1_6 : NaG (tb l.prog w K C1 C2 C9 C10 C11 C12) 1 6 (PySem.Str.ofString "root") := ⟨C1, hC1, ft_6, rna_1_6⟩
    have nf__check_families : (PySem.Str.ofString "_check_families") ∉ (tb l.prog w K C1 C2 C9 C10 C11 C12).FT := (by decide +kernel : (PySem.Str.ofString "_check_families") ∉ FTs)
    have nf__least_sizes : (PySem.Str.ofString "_least_sizes") ∉ (tb l.prog w K C1 C2 C9 C10 C11 C12).FT := (by decide +kernel : (PySem.Str.ofString "_least_sizes") ∉ FTs)
    have na_1_7 : NaG (tb l.prog w K C1 C2 C9 C10 C11 C12) 1 7 (PySem.Str.ofString "_sizes") := ⟨C1, hC1, ft_7, rna_1_7⟩
    have cc_2_MOST_NAMES : CcG (tb l.prog w K C1 C2 C9 C10 C11 C12) mg (PySem.Str.ofString "Program") (PySem.Str.ofString "MOST_NAMES") 6 := ⟨C2, _, mC2, ⟨rd2, ga2⟩, rcc_2_MOST_NAMES⟩
    have nf_row : (PySem.Str.ofString "row") ∉ (tb l.prog w K C1 C2 C9 C10 C11 C12).FT := (by decide +kernel : (PySem.Str.ofString "row") ∉ FTs)
    have m_isinstance : mg (PySem.Str.ofString "isinstance") = none := PySem.W.mg_none_of X G z_isinstance
    have m_ValueError : mg (PySem.Str.ofString "ValueError") = none := PySem.W.mg_none_of X G z_ValueError
    have F_law_source := fun_mk (st := st_law_source) l_law_source c_law_source k_law_source
    have h_law_source : FnG l.prog w (tb l.prog w K C1 C2 C9 C10 C11 C12) mg base 1 (PySem.Str.ofString "_law_source") G_law_source := fng_of F_law_source (PySem.W.mg_of X G a_law_source) sc_law_source (fun _ _ _ _ _ _ us hl => match us, hl with | [_], _ => rfl) isB (bx_law_source hT m_int m_sum)
    have F_law_draw := fun_mk (st := st_law_draw) l_law_draw c_law_draw k_law_draw
    have h_law_draw : FnG l.prog w (tb l.prog w K C1 C2 C9 C10 C11 C12) mg base 1 (PySem.Str.ofString "_law_draw") G_law_draw := fng_of F_law_draw (PySem.W.mg_of X G a_law_draw) sc_law_draw (fun _ _ _ _ _ _ us hl => match us, hl with | [_, _], _ => rfl) isB (bx_law_draw hT m_len m_int)
    have F_law_names := fun_mk (st := st_law_names) l_law_names c_law_names k_law_names
    have h_law_names : FnG l.prog w (tb l.prog w K C1 C2 C9 C10 C11 C12) mg base 2 (PySem.Str.ofString "_law_names") G_law_names := fng_of F_law_names (PySem.W.mg_of X G a_law_names) sc_law_names (fun _ _ _ _ _ _ us hl => match us, hl with | [_, _], _ => rfl) isB (bx_law_names hT h_law_draw m_range m_int)
    have F_Program_d_initd_ := fun_mk (st := st_Program_d_initd_) l_Program_d_initd_ c_Program_d_initd_ k_Program_d_initd_
    have h_Program_d_initd_ : ClG l.prog w (tb l.prog w K C1 C2 C9 C10 C11 C12) mg base 3 2 (PySem.Str.ofString "Program") G_Program_d_initd_ := clg_of  F_Program_d_initd_ hC2 mC2 cl2 mk2 kc2 a_Program_d_initd_ i_Program_d_initd_ sc_Program_d_initd_ (fun _ _ _ _ _ _ us hl => match us, hl with | [_, _, _], _ => rfl) isP (bx_Program_d_initd_ hT na_2_8 m_list m_tuple na_2_9 na_2_10 na_2_11 ft_9 m_len cc_2_MOST_WALKS xc_10 ft_11)
    have F_Grammar_check_names := fun_mk (st := st_Grammar_check_names) l_Grammar_check_names c_Grammar_check_names k_Grammar_check_names
    have h_Grammar_check_names : MtG l.prog w (tb l.prog w K C1 C2 C9 C10 C11 C12) mg base 3 1 (PySem.Str.ofString "_check_names") G_Grammar_check_names := mtg_of  F_Grammar_check_names hC1 a_Grammar_check_names i_Grammar_check_names sc_Grammar_check_names (fun _ _ _ _ _ _ us hl => match us, hl with | [_, _], _ => rfl) isB (bx_Grammar_check_names hT ft_1 m_len cc_1_MOST_FIELDS xc_10 m_set xc_12 ft_2 cc_1_MOST_KINDS cc_1_MOST_CHILDREN)
    have F_Grammar_check_families := fun_mk (st := st_Grammar_check_families) l_Grammar_check_families c_Grammar_check_families k_Grammar_check_families
    have h_Grammar_check_families : MtG l.prog w (tb l.prog w K C1 C2 C9 C10 C11 C12) mg base 3 1 (PySem.Str.ofString "_check_families") G_Grammar_check_families := mtg_of  F_Grammar_check_families hC1 a_Grammar_check_families i_Grammar_check_families sc_Grammar_check_families (fun _ _ _ _ _ _ us hl => match us, hl with | [_], _ => rfl) isB (bx_Grammar_check_families hT ft_5 m_len cc_1_MOST_FAMILIES xc_10 ft_2 ft_4 xc_12 ft_6)
    have F_Grammar_least_sizes := fun_mk (st := st_Grammar_least_sizes) l_Grammar_least_sizes c_Grammar_least_sizes k_Grammar_least_sizes
    have h_Grammar_least_sizes : MtG l.prog w (tb l.prog w K C1 C2 C9 C10 C11 C12) mg base 1 1 (PySem.Str.ofString "_least_sizes") G_Grammar_least_sizes := mtg_of  F_Grammar_least_sizes hC1 a_Grammar_least_sizes i_Grammar_least_sizes sc_Grammar_least_sizes (fun _ _ _ _ _ _ us hl => match us, hl with | [_], _ => rfl) isP (bx_Grammar_least_sizes hT ft_2 ft_3 ft_4 m_all m_sum)
    have F_Grammar_d_initd_ := fun_mk (st := st_Grammar_d_initd_) l_Grammar_d_initd_ c_Grammar_d_initd_ k_Grammar_d_initd_
    have h_Grammar_d_initd_ : ClG l.prog w (tb l.prog w K C1 C2 C9 C10 C11 C12) mg base 4 1 (PySem.Str.ofString "Grammar") G_Grammar_d_initd_ := clg_ofK (u := .none) F_Grammar_d_initd_ hC1 mC1 cl1 mk1 kc1 a_Grammar_d_initd_ i_Grammar_d_initd_ sc_Grammar_d_initd_ (kb_Grammar_d_initd_ kw_Grammar_d_initd_) isB (bx_Grammar_d_initd_ hT m_tuple na_1_1 na_1_2 na_1_3 na_1_4 h_Grammar_check_names nf__check_names m_len na_1_5 ft_2 ft_3 ft_5 na_1_6 h_Grammar_check_families nf__check_families h_Grammar_least_sizes nf__least_sizes na_1_7 ft_7 xc_12)
    have hk_Grammar_d_initd_ : ClkG l.prog w (tb l.prog w K C1 C2 C9 C10 C11 C12) mg base 4 1 (PySem.Str.ofString "Grammar") 2 (PySem.Str.ofString "root") H_Grammar_d_initd_ := clkg_of F_Grammar_d_initd_ hC1 mC1 cl1 mk1 kc1 a_Grammar_d_initd_ i_Grammar_d_initd_ sc_Grammar_d_initd_ kk_Grammar_d_initd_ isB (bx_Grammar_d_initd_ hT m_tuple na_1_1 na_1_2 na_1_3 na_1_4 h_Grammar_check_names nf__check_names m_len na_1_5 ft_2 ft_3 ft_5 na_1_6 h_Grammar_check_families nf__check_families h_Grammar_least_sizes nf__least_sizes na_1_7 ft_7 xc_12)
    have F_law_due := fun_mk (st := st_law_due) l_law_due c_law_due k_law_due
    have h_law_due : FnG l.prog w (tb l.prog w K C1 C2 C9 C10 C11 C12) mg base 1 (PySem.Str.ofString "_law_due") G_law_due := fng_of F_law_due (PySem.W.mg_of X G a_law_due) sc_law_due (fun _ _ _ _ _ _ us hl => match us, hl with | [_, _], _ => rfl) isB (bx_law_due hT m_len m_tuple)
    have F_Program_row := fun_mk (st := st_Program_row) l_Program_row c_Program_row k_Program_row
    have h_Program_row : MtG l.prog w (tb l.prog w K C1 C2 C9 C10 C11 C12) mg base 3 2 (PySem.Str.ofString "row") G_Program_row := mtg_of  F_Program_row hC2 a_Program_row i_Program_row sc_Program_row (fun _ _ _ _ _ _ us hl => match us, hl with | [_, _], _ => rfl) isB (bx_Program_row hT m_len cc_2_MOST_NAMES xc_10 ft_9 xc_11 m_tuple)
    have F_law_told := fun_mk (st := st_law_told) l_law_told c_law_told k_law_told
    have h_law_told : FnG l.prog w (tb l.prog w K C1 C2 C9 C10 C11 C12) mg base 4 (PySem.Str.ofString "_law_told") G_law_told := fng_of F_law_told (PySem.W.mg_of X G a_law_told) sc_law_told (fun _ _ _ _ _ _ us hl => match us, hl with | [_, _], _ => rfl) isB (bx_law_told hT h_Program_row nf_row ie_LimitExceeded_WalkError m_isinstance ie_LimitExceeded_UnknownName ft_35 xf_LimitExceeded_limit sb_LimitExceeded ie_UnknownName_WalkError ie_UnknownName_ValueError m_ValueError ft_36 xf_UnknownName_name sb_UnknownName hX)
    have F_law := fun_mk (st := st_law) l_law c_law k_law
    exact (fnok_body F_law sc_law isP (bx_law hT h_law_source h_law_names h_law_draw h_Program_d_initd_ h_Grammar_d_initd_ m_range m_int m_len m_list h_law_due h_law_told m_tuple h_Program_row nf_row)).imp fun vs H Q E h => sp_law h
theorem walk {l : PySem.W.OpenLaw} {q : Program} {loose : List Str} {XP : (Str → Option Value) → Heap → Prop} {YP : World → Heap → Prop} {d : DefRec} {K : Params → PySem.W.Frag} (hn : l.most = some 63) (hdf : d.params.defaults = [])
    (hY : ∀ (w : World) (h : Heap), YP w h → (K w.params).In h)
    (F : ∀ (w : World) (mg : Str → Option Value) (fa : Addr) (h : Heap), (K w.params).In h → h.Ns mainGlobals mg → mg d.name = some (.ref fa) →
      ∃ fd : FuncData, (∀ (s : Shared) (u : Value), BindsTo s fd ⟨[u], []⟩ [("_law_script", u)]) ∧ ∀ base : Heap, (K w.params).In base → base.Ns mainGlobals mg → FnOk l.prog w (K w.params) mg base (L2.CX l.prog w) 6 fa fd ["_law_script"] (spLaw (K w.params))) :
    PySem.W.WalkO q loose XP YP l.row.toRowW d [] (fun f vs => PySem.call f vs) :=
  L2.walk_of (n := 63) (k := 6) (x := "_law_script") (CX := fun w => L2.CX l.prog w) (sp := fun w => spLaw (K w.params)) hn (by decide) hdf ⟨rfl, by decide, by decide⟩ hY F (fun _ _ a ns hl hO hS => ⟨a, ns, rfl, hO, hS, hl, fun _ => rfl⟩) fun w H s e s' z => by
    obtain ⟨_, _, _, _, _, _, _, _, _, _, _, _, z⟩ := z
    exact z.elim
end K08
open PySem PySem.W PyProof.Rows
set_option maxRecDepth 100000 in
set_option maxHeartbeats 0 in
theorem PySem.Challenge.cw_fusewalks_k08_rows_holds : PySem.Challenge.rw_fusewalks_k08_rows.Holds := by
  w_on; o_law; k_head; (case hw => w_witness2)
  k_fill
  refine K08.walk (l := PySem.Challenge.rw_fusewalks_k08_rows) rfl rfl (fun w h Y => PySem.W.kIn_of Y) ?F
  case F =>
    intro w mg fa h KX G hmg
    refine' K08.all_mk KX G hmg ?aC1 ?pg1 ?hd1 ?po1 ?sa1 ?mk1 ?kc1 ?aC2 ?pg2 ?hd2 ?po2 ?sa2 ?mk2 ?kc2 ?aC9 ?aC10 ?aC11 ?aC12 ?z_super ?z_over ?z_top ?xcl_10 ?xcl_9 ?xm_10 ?xfi_9 ?x1_10 ?x2_10 ?x3_10 ?x4_10 ?x5_10 ?x6_10 ?x7_10 ?x8_10 ?x9_10 ?xa_10 ?xb_10 ?xd_10 ?xe_10 ?xg_10 ?xh_10 ?xi_10 ?xn_10_limit ?xcl_11 ?xm_11 ?x1_11 ?x2_11 ?x3_11 ?x4_11 ?x5_11 ?x6_11 ?x7_11 ?x8_11 ?x9_11 ?xa_11 ?xb_11 ?xd_11 ?xe_11 ?xg_11 ?xh_11 ?xi_11 ?xn_11_name ?xcl_12 ?xm_12 ?x1_12 ?x2_12 ?x3_12 ?x4_12 ?x5_12 ?x6_12 ?x7_12 ?x8_12 ?x9_12 ?xa_12 ?xb_12 ?xd_12 ?xe_12 ?xg_12 ?xh_12 ?xi_12 ?xn_12_part ?xhd_10 ?su_11_10 ?su_10_10 ?xhd_11 ?su_11_11 ?su_10_11 ?xga_10 ?xgg_10 ?is1_10 ?is3_10 ?is5_10 ?is6_10 ?x4_9 ?x5_9 ?xhd_9 ?su_10_9 ?ne_10_11 ?xga_11 ?xgg_11 ?is1_11 ?is3_11 ?is5_11 ?is6_11 ?su_11_9 ?st_11_ValueError ?z_int ?z_sum ?z_len ?z_range ?rna_2_8 ?z_list ?z_tuple ?rna_2_9 ?rna_2_10 ?rna_2_11 ?rd2 ?ga2 ?rcc_2_MOST_WALKS ?rd1 ?ga1 ?rcc_1_MOST_FIELDS ?z_set ?rcc_1_MOST_KINDS ?rcc_1_MOST_CHILDREN ?rcc_1_MOST_FAMILIES ?z_all ?rna_1_1 ?rna_1_2 ?rna_1_3 ?rna_1_4 ?rna_1_5 ?rna_1_6 ?rna_1_7 ?rcc_2_MOST_NAMES ?z_isinstance ?z_ValueError ?l_law_source ?c_law_source ?k_law_source ?a_law_source ?l_law_draw ?c_law_draw ?k_law_draw ?a_law_draw ?l_law_names ?c_law_names ?k_law_names ?a_law_names ?l_Program_d_initd_ ?c_Program_d_initd_ ?k_Program_d_initd_ ?a_Program_d_initd_ ?i_Program_d_initd_ ?l_Grammar_check_names ?c_Grammar_check_names ?k_Grammar_check_names ?a_Grammar_check_names ?i_Grammar_check_names ?l_Grammar_check_families ?c_Grammar_check_families ?k_Grammar_check_families ?a_Grammar_check_families ?i_Grammar_check_families ?l_Grammar_least_sizes ?c_Grammar_least_sizes ?k_Grammar_least_sizes ?a_Grammar_least_sizes ?i_Grammar_least_sizes ?kw_Grammar_d_initd_ ?l_Grammar_d_initd_ ?c_Grammar_d_initd_ ?k_Grammar_d_initd_ ?a_Grammar_d_initd_ ?i_Grammar_d_initd_ ?l_law_due ?c_law_due ?k_law_due ?a_law_due ?l_Program_row ?c_Program_row ?k_Program_row ?a_Program_row ?i_Program_row ?l_law_told ?c_law_told ?k_law_told ?a_law_told ?l_law ?c_law ?k_law ?a_law
    (case aC1 => k_is)
    (case aC2 => k_is)
    (case aC9 => k_is)
    (case aC10 => k_is)
    (case aC11 => k_is)
    (case aC12 => k_is)
    (case a_law_source => k_is)
    (case a_law_draw => k_is)
    (case a_law_names => k_is)
    (case a_Program_d_initd_ => k_is)
    (case a_Grammar_check_names => k_is)
    (case a_Grammar_check_families => k_is)
    (case a_Grammar_least_sizes => k_is)
    (case a_Grammar_d_initd_ => k_is)
    (case a_law_due => k_is)
    (case a_Program_row => k_is)
    (case a_law_told => k_is)
    (case a_law => k_is)
    (case l_law_source => k_is)
    (case l_law_draw => k_is)
    (case l_law_names => k_is)
    (case l_Program_d_initd_ => k_is)
    (case l_Grammar_check_names => k_is)
    (case l_Grammar_check_families => k_is)
    (case l_Grammar_least_sizes => k_is)
    (case l_Grammar_d_initd_ => k_is)
    (case l_law_due => k_is)
    (case l_Program_row => k_is)
    (case l_law_told => k_is)
    (case l_law => k_is)
    (case pg1 => k_is)
    (case hd1 => k_is)
    (case po1 => k_is)
    (case sa1 => k_is)
    (case mk1 => k_is)
    (case kc1 => k_is)
    (case pg2 => k_is)
    (case hd2 => k_is)
    (case po2 => k_is)
    (case sa2 => k_is)
    (case mk2 => k_is)
    (case kc2 => k_is)
    (case z_super => k_is)
    (case z_over => k_is)
    (case z_top => first | k_is | rfl | decide +kernel)
    (case xcl_10 => first | k_is | rfl | decide +kernel)
    (case xcl_9 => first | k_is | rfl | decide +kernel)
    (case xm_10 => first | k_is | rfl | decide +kernel)
    (case xfi_9 => first | k_is | rfl | decide +kernel)
    (case x1_10 => k_is)
    (case x2_10 => first | k_is | rfl | decide +kernel)
    (case x3_10 => k_is)
    (case x4_10 => k_is)
    (case x5_10 => k_is)
    (case x6_10 => k_is)
    (case x7_10 => k_is)
    (case x8_10 => k_is)
    (case x9_10 => k_is)
    (case xa_10 => k_is)
    (case xb_10 => k_is)
    (case xd_10 => k_is)
    (case xe_10 => k_is)
    (case xg_10 => k_is)
    (case xh_10 => first | k_is | rfl | decide +kernel)
    (case xi_10 => first | k_is | rfl | decide +kernel)
    (case xn_10_limit => k_is)
    (case xcl_11 => first | k_is | rfl | decide +kernel)
    (case xm_11 => first | k_is | rfl | decide +kernel)
    (case x1_11 => k_is)
    (case x2_11 => first | k_is | rfl | decide +kernel)
    (case x3_11 => k_is)
    (case x4_11 => k_is)
    (case x5_11 => k_is)
    (case x6_11 => k_is)
    (case x7_11 => k_is)
    (case x8_11 => k_is)
    (case x9_11 => k_is)
    (case xa_11 => k_is)
    (case xb_11 => k_is)
    (case xd_11 => k_is)
    (case xe_11 => k_is)
    (case xg_11 => k_is)
    (case xh_11 => first | k_is | rfl | decide +kernel)
    (case xi_11 => first | k_is | rfl | decide +kernel)
    (case xn_11_name => k_is)
    (case xcl_12 => first | k_is | rfl | decide +kernel)
    (case xm_12 => first | k_is | rfl | decide +kernel)
    (case x1_12 => k_is)
    (case x2_12 => first | k_is | rfl | decide +kernel)
    (case x3_12 => k_is)
    (case x4_12 => k_is)
    (case x5_12 => k_is)
    (case x6_12 => k_is)
    (case x7_12 => k_is)
    (case x8_12 => k_is)
    (case x9_12 => k_is)
    (case xa_12 => k_is)
    (case xb_12 => k_is)
    (case xd_12 => k_is)
    (case xe_12 => k_is)
    (case xg_12 => k_is)
    (case xh_12 => first | k_is | rfl | decide +kernel)
    (case xi_12 => first | k_is | rfl | decide +kernel)
    (case xn_12_part => k_is)
    (case xhd_10 => k_is)
    (case su_11_10 => k_is)
    (case su_10_10 => k_is)
    (case xhd_11 => k_is)
    (case su_11_11 => k_is)
    (case su_10_11 => k_is)
    (case xga_10 => k_is)
    (case xgg_10 => k_is)
    (case is1_10 => k_is)
    (case is3_10 => k_is)
    (case is5_10 => k_is)
    (case is6_10 => k_is)
    (case x4_9 => k_is)
    (case x5_9 => k_is)
    (case xhd_9 => k_is)
    (case su_10_9 => k_is)
    (case ne_10_11 => first | k_is | rfl | decide +kernel)
    (case xga_11 => k_is)
    (case xgg_11 => k_is)
    (case is1_11 => k_is)
    (case is3_11 => k_is)
    (case is5_11 => k_is)
    (case is6_11 => k_is)
    (case su_11_9 => k_is)
    (case st_11_ValueError => k_is)
    (case z_int => k_is)
    (case z_sum => k_is)
    (case z_len => k_is)
    (case z_range => k_is)
    (case rna_2_8 => k_is)
    (case z_list => k_is)
    (case z_tuple => k_is)
    (case rna_2_9 => k_is)
    (case rna_2_10 => k_is)
    (case rna_2_11 => k_is)
    (case rd2 => k_is)
    (case ga2 => k_is)
    (case rcc_2_MOST_WALKS => k_is)
    (case rd1 => k_is)
    (case ga1 => k_is)
    (case rcc_1_MOST_FIELDS => k_is)
    (case z_set => k_is)
    (case rcc_1_MOST_KINDS => k_is)
    (case rcc_1_MOST_CHILDREN => k_is)
    (case rcc_1_MOST_FAMILIES => k_is)
    (case z_all => k_is)
    (case rna_1_1 => k_is)
    (case rna_1_2 => k_is)
    (case rna_1_3 => k_is)
    (case rna_1_4 => k_is)
    (case rna_1_5 => k_is)
    (case rna_1_6 => k_is)
    (case rna_1_7 => k_is)
    (case rcc_2_MOST_NAMES => k_is)
    (case z_isinstance => k_is)
    (case z_ValueError => k_is)
    (case c_law_source => k_is)
    (case k_law_source => k_is)
    (case c_law_draw => k_is)
    (case k_law_draw => k_is)
    (case c_law_names => k_is)
    (case k_law_names => k_is)
    (case c_Program_d_initd_ => k_is)
    (case k_Program_d_initd_ => k_is)
    (case i_Program_d_initd_ => k_is)
    (case c_Grammar_check_names => k_is)
    (case k_Grammar_check_names => k_is)
    (case i_Grammar_check_names => k_is)
    (case c_Grammar_check_families => k_is)
    (case k_Grammar_check_families => k_is)
    (case i_Grammar_check_families => k_is)
    (case c_Grammar_least_sizes => k_is)
    (case k_Grammar_least_sizes => k_is)
    (case i_Grammar_least_sizes => k_is)
    (case kw_Grammar_d_initd_ => k_is)
    (case c_Grammar_d_initd_ => k_is)
    (case k_Grammar_d_initd_ => k_is)
    (case i_Grammar_d_initd_ => k_is)
    (case c_law_due => k_is)
    (case k_law_due => k_is)
    (case c_Program_row => k_is)
    (case k_Program_row => k_is)
    (case i_Program_row => k_is)
    (case c_law_told => k_is)
    (case k_law_told => k_is)
    (case c_law => k_is)
    (case k_law => k_is)
    all_goals exact PySem.Value.none
#print axioms PySem.Challenge.cw_fusewalks_k08_rows_holds

