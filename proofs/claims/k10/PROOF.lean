import PyProof.Rows.All
import Wide.All
import OpenK.AllK
import Wide.FinOn
import HandS.ForMost
import HandS.ForExc
import HandS.Star
import HandS.Property
import HandS.ClsMeth
import HandS.IsInst
import HandS.TupAny
import HandS.Deep
import HandS.Style
import HandS.MakeKw
import HandS.Zip
import HandS.Rev
import HandS.RevRange
import HandS.TupLen
import HandS.SlotsOwn
import HandS.IterNext
import HandS.IterVal
import HandS.OwnIter
import PySem.Challenge.RW_fusewalks_k10_plan_groups
set_option Elab.async false
set_option linter.all false
set_option maxRecDepth 100000
set_option maxHeartbeats 4000000
namespace FW
open PySem PySem.Spec PyProof.Rows L2

/-! ### data by value, a store of mutable objects -/
inductive D where
  | non | bl (b : Bool) | int (i : Int) | str (s : Str) | tup (xs : List D) | ref (n : Nat) | scr (ns : List Int)
mutual
def D.beq : D → D → Bool
  | .non, y => match y with | .non => true | _ => false
  | .bl a, y => match y with | .bl b => a == b | _ => false
  | .int a, y => match y with | .int b => a == b | _ => false
  | .str a, y => match y with | .str b => a == b | _ => false
  | .tup a, y => match y with | .tup b => D.beqs a b | _ => false
  | .ref a, y => match y with | .ref b => a == b | _ => false
  | .scr a, y => match y with | .scr b => a == b | _ => false
def D.beqs : List D → List D → Bool
  | [], y => match y with | [] => true | _ => false
  | x :: xs, y => match y with | y :: ys => D.beq x y && D.beqs xs ys | _ => false
end
mutual
theorem D.beq_iff : ∀ a b : D, D.beq a b = true ↔ a = b
  | .non, b => by cases b <;> simp [D.beq]
  | .bl _, b => by cases b <;> simp [D.beq]
  | .int _, b => by cases b <;> simp [D.beq]
  | .str _, b => by cases b <;> simp [D.beq]
  | .ref _, b => by cases b <;> simp [D.beq]
  | .scr _, b => by cases b <;> simp [D.beq]
  | .tup xs, b => by
    cases b with
    | tup ys => simp [D.beq, D.beqs_iff xs ys]
    | _ => simp [D.beq]
theorem D.beqs_iff : ∀ a b : List D, D.beqs a b = true ↔ a = b
  | [], b => by cases b <;> simp [D.beqs]
  | x :: xs, b => by
    cases b with
    | nil => simp [D.beqs]
    | cons y ys => simp [D.beqs, D.beq_iff x y, D.beqs_iff xs ys]
end
instance : DecidableEq D := fun a b => decidable_of_iff _ (D.beq_iff a b)

inductive DObj where
  | lst (xs : List D)
  | ins (c : Nat) (fs : List (Nat × D))
  | dct (kvs : List (D × D))
  | set (xs : List D)
  deriving DecidableEq
abbrev DSto := List DObj
abbrev DEnv := List (Option D)
inductive DRes (α : Type) where
  | ok (a : α) (st : DSto)
  | exc (c : Nat) (fs : List (Nat × D)) (st : DSto)
  | bad
def DRes.bind {α β : Type} : DRes α → (α → DSto → DRes β) → DRes β
  | .ok a st, f => f a st
  | .exc c fs st, _ => .exc c fs st
  | .bad, _ => .bad
@[simp] theorem DRes.bind_ok {α β : Type} (a : α) (st : DSto) (f : α → DSto → DRes β) : (DRes.ok a st).bind f = f a st := id rfl
@[simp] theorem DRes.bind_exc {α β : Type} (c : Nat) (fs) (st : DSto) (f : α → DSto → DRes β) : (DRes.exc c fs st : DRes α).bind f = .exc c fs st := id rfl
@[simp] theorem DRes.bind_bad {α β : Type} (f : α → DSto → DRes β) : (DRes.bad : DRes α).bind f = .bad := id rfl
abbrev Den := DEnv → DSto → DRes D
abbrev DenT := DEnv → DSto → DRes Bool
abbrev DenA := DEnv → DSto → DRes (List D)
abbrev FnD := List D → DSto → DRes D
inductive DStm where
  | nx (ρ : DEnv) (st : DSto)
  | rt (d : D) (st : DSto)
  | bk (ρ : DEnv) (st : DSto)
  | ct (ρ : DEnv) (st : DSto)
  | exc (c : Nat) (fs : List (Nat × D)) (ρ : DEnv) (st : DSto)
  | bad
abbrev DenS := DEnv → DSto → DStm

/-! ### how data lie in the abstract heap -/
structure Tb where
  K : PySem.W.Frag
  CT : List Addr
  FT : List Str
  nd : FT.Nodup
section
variable (T : Tb) (μ : List Addr) (H : Hp)
/-- a list of the written part -/
def SqK (K : PySem.W.Frag) (a : Addr) (xs : List V) : Prop :=
  ∃ (o : Obj) (its : Array Value) (n : Nat), K.lookup a = some o ∧ o.cls = .type "list" ∧ o.dict = none ∧ o.data = .seq its n ∧ its.size ≤ sizeLine ∧ Vals xs its.toList
mutual
def RV : D → V → Prop
  | .non, v => v = .non
  | .bl b, v => v = .bl b
  | .int i, v => v = .int i
  | .str s, v => v = .str s
  | .tup xs, v => ∃ a vs, v = .ref a ∧ H a = some (.tup vs) ∧ RVs xs vs
  | .ref n, v => ∃ a, v = .ref a ∧ μ[n]? = some a
  | .scr ns, v => ∃ a, v = .ref a ∧ ((∃ o, H a = some (.frz o (.lst (ns.map V.int)))) ∨ SqK T.K a (ns.map V.int))
def RVs : List D → List V → Prop
  | [], vs => vs = []
  | x :: xs, vs => ∃ v ws, vs = v :: ws ∧ RV x v ∧ RVs xs ws
end
abbrev FsR (C : Addr) : List (Nat × D) → List (Str × V) → Prop := Paired fun p q => T.FT[p.1]? = some q.1 ∧ RV T μ H p.2 q.2 ∧ NoAttr T.K C q.1
abbrev XdR : List (Nat × D) → List (Str × V) → Prop := Paired fun p q => T.FT[p.1]? = some q.1 ∧ RV T μ H p.2 q.2
def keyD : Key → D
  | .inl i => .int i
  | .inr s => .str s
def RO : DObj → Addr → Prop
  | .lst xs, a => ∃ vs, H a = some (.lst vs) ∧ RVs T μ H xs vs
  | .ins c fs, a => ∃ C dx vs, T.CT[c]? = some C ∧ Cls T.K C ∧ H a = some (.ins C dx vs) ∧ FsR T μ H C fs vs
  | .dct kvs, a => (∃ ks, H a = some (.dK ks) ∧ Paired (fun (p : D × D) (q : Key × V) => p.1 = keyD q.1 ∧ RV T μ H p.2 q.2) kvs ks) ∨
      ∃ ks, H a = some (.dT ks) ∧ Paired (fun (p : D × D) (q : List Key × V) => p.1 = .tup (q.1.map keyD) ∧ RV T μ H p.2 q.2) kvs ks
  | .set _, _ => False
structure SOk (st : DSto) : Prop where
  len : μ.length = st.length
  ro : ∀ (i : Nat) (o : DObj) (a : Addr), st[i]? = some o → μ[i]? = some a → RO T μ H o a
  inj : ∀ (i j : Nat) (a : Addr), μ[i]? = some a → μ[j]? = some a → i = j
structure EOk (ρ : DEnv) (σ : L2.St) : Prop where
  len : ρ.length = σ.length
  val : ∀ (i : Nat) (d : D), ρ[i]? = some (some d) → ∃ v, σ[i]? = some (some v) ∧ RV T μ H d v
end
/-- what data by value lean on -/
structure Ex0 (μ : List Addr) (H : Hp) (μ' : List Addr) (H' : Hp) : Prop where
  pre : ∃ ν, μ' = μ ++ ν
  tup : ∀ a xs, H a = some (.tup xs) → H' a = some (.tup xs)
  frz : ∀ a o xs, H a = some (.frz o (.lst xs)) → H' a = some (.frz o (.lst xs))
structure Ex (μ : List Addr) (H : Hp) (μ' : List Addr) (H' : Hp) : Prop where
  x0 : Ex0 μ H μ' H'
  fr : ∀ a o, H a = some o → a ∉ μ → H' a = some o
  nw : ∀ a, a ∈ μ' → a ∉ μ → H a = none

section
variable {T : Tb} {μ μ' μ1 μ2 : List Addr} {H H' H1 H2 : Hp} {st st' : DSto} {a : Addr}
theorem Ex0.refl : Ex0 μ H μ H := ⟨⟨[], by simp⟩, fun _ _ h => h, fun _ _ _ h => h⟩
theorem Ex.refl : Ex μ H μ H := ⟨.refl, fun _ _ h _ => h, fun a h n => absurd h n⟩
theorem Ex0.trans (x : Ex0 μ H μ1 H1) (y : Ex0 μ1 H1 μ2 H2) : Ex0 μ H μ2 H2 := by
  obtain ⟨⟨n1, rfl⟩, t1, f1⟩ := x
  obtain ⟨⟨n2, rfl⟩, t2, f2⟩ := y
  exact ⟨⟨n1 ++ n2, by simp⟩, fun a xs h => t2 a xs (t1 a xs h), fun a o xs h => f2 a o xs (f1 a o xs h)⟩
theorem Ex.trans (x : Ex μ H μ1 H1) (y : Ex μ1 H1 μ2 H2) : Ex μ H μ2 H2 := by
  have back : ∀ a, H1 a = none → H a = none ∨ a ∈ μ := fun a h => by
    cases q : H a with
    | none => exact .inl rfl
    | some o =>
      by_cases ha : a ∈ μ
      · exact .inr ha
      · rw [x.fr a o q ha] at h
        cases h
  refine ⟨x.x0.trans y.x0, fun a o h ha => ?_, fun a h ha => ?_⟩
  · refine y.fr a o (x.fr a o h ha) fun z => ?_
    rw [x.nw a z ha] at h
    cases h
  · by_cases z : a ∈ μ1
    · exact x.nw a z ha
    · exact (back a (y.nw a h z)).resolve_right ha
theorem Ex0.get (x : Ex0 μ H μ' H') {n : Nat} (h : μ[n]? = some a) : μ'[n]? = some a := by
  obtain ⟨⟨ν, rfl⟩, _⟩ := x
  rw [List.getElem?_append_left (List.getElem?_eq_some_iff.mp h).1]
  exact h
theorem Ex.get (x : Ex μ H μ' H') {n : Nat} (h : μ[n]? = some a) : μ'[n]? = some a := x.x0.get h
mutual
theorem RV.ex0 (x : Ex0 μ H μ' H') : ∀ {d : D} {v : V}, RV T μ H d v → RV T μ' H' d v
  | .non, _, h => by simpa [RV] using h
  | .bl _, _, h => by simpa [RV] using h
  | .int _, _, h => by simpa [RV] using h
  | .str _, _, h => by simpa [RV] using h
  | .tup xs, _, h => by
    simp only [RV] at h ⊢
    obtain ⟨a, vs, e, h1, h2⟩ := h
    exact ⟨a, vs, e, x.tup _ _ h1, RVs.ex0 x h2⟩
  | .ref n, _, h => by
    simp only [RV] at h ⊢
    obtain ⟨a, e, h⟩ := h
    exact ⟨a, e, x.get h⟩
  | .scr ns, _, h => by
    simp only [RV] at h ⊢
    obtain ⟨a, e, h⟩ := h
    exact ⟨a, e, h.imp (fun ⟨o, z⟩ => ⟨o, x.frz _ _ _ z⟩) id⟩
theorem RVs.ex0 (x : Ex0 μ H μ' H') : ∀ {d : List D} {v : List V}, RVs T μ H d v → RVs T μ' H' d v
  | [], _, h => by simpa [RVs] using h
  | d :: ds, _, h => by
    simp only [RVs] at h ⊢
    obtain ⟨v, ws, e, h1, h2⟩ := h
    exact ⟨v, ws, e, RV.ex0 x h1, RVs.ex0 x h2⟩
end
theorem RV.ex (x : Ex μ H μ' H') {d : D} {v : V} (h : RV T μ H d v) : RV T μ' H' d v := h.ex0 x.x0
theorem RVs.ex (x : Ex μ H μ' H') {d : List D} {v : List V} (h : RVs T μ H d v) : RVs T μ' H' d v := h.ex0 x.x0
theorem EOk.ex {ρ : DEnv} {σ : L2.St} (x : Ex μ H μ' H') (h : EOk T μ H ρ σ) : EOk T μ' H' ρ σ :=
  ⟨h.len, fun i d e => let ⟨v, e1, r⟩ := h.val i d e; ⟨v, e1, r.ex x⟩⟩
theorem EOk.ex0 {ρ : DEnv} {σ : L2.St} (x : Ex0 μ H μ' H') (h : EOk T μ H ρ σ) : EOk T μ' H' ρ σ :=
  ⟨h.len, fun i d e => let ⟨v, e1, r⟩ := h.val i d e; ⟨v, e1, r.ex0 x⟩⟩
theorem paired_imp {α β : Type} {F G : α → β → Prop} : ∀ {l₁ : List α} {l₂ : List β}, Paired F l₁ l₂ → (∀ a b, F a b → G a b) → Paired G l₁ l₂
  | _, _, .nil, _ => .nil
  | _, _, .cons r t, f => .cons (f _ _ r) (paired_imp t f)
/-- an object's data where its own cell and the tuples stand -/
theorem RO.mono0 {o : DObj} (h : RO T μ H o a) (x : Ex0 μ H μ' H') (ha : ∀ u, H a = some u → H' a = some u) : RO T μ' H' o a := by
  cases o with
  | lst xs => obtain ⟨vs, e, r⟩ := h; exact ⟨vs, ha _ e, r.ex0 x⟩
  | ins c fs =>
    obtain ⟨C, dx, vs, e1, e2, e3, r⟩ := h
    exact ⟨C, dx, vs, e1, e2, ha _ e3, paired_imp r fun p q z => ⟨z.1, z.2.1.ex0 x, z.2.2⟩⟩
  | dct kvs =>
    rcases h with ⟨ks, e, r⟩ | ⟨ks, e, r⟩
    · exact .inl ⟨ks, ha _ e, paired_imp r fun p q z => ⟨z.1, z.2.ex0 x⟩⟩
    · exact .inr ⟨ks, ha _ e, paired_imp r fun p q z => ⟨z.1, z.2.ex0 x⟩⟩
  | set xs => exact h.elim
theorem RO.mono {o : DObj} (h : RO T μ H o a) (x : Ex μ H μ' H') (ha : ∀ u, H a = some u → H' a = some u) : RO T μ' H' o a := h.mono0 x.x0 ha
theorem RVs.len : ∀ {d : List D} {v : List V}, RVs T μ H d v → v.length = d.length
  | [], _, h => by simp only [RVs] at h; simp [h]
  | d :: ds, _, h => by
    simp only [RVs] at h
    obtain ⟨v, ws, rfl, h1, h2⟩ := h
    simp [RVs.len h2]
theorem RVs.get : ∀ {d : List D} {v : List V} {i : Nat} {x : D}, RVs T μ H d v → d[i]? = some x → ∃ y, v[i]? = some y ∧ RV T μ H x y
  | [], _, _, _, h, e => by simp at e
  | d :: ds, _, 0, x, h, e => by
    simp only [RVs] at h
    obtain ⟨v, ws, rfl, h1, h2⟩ := h
    simp at e; subst e
    exact ⟨v, rfl, h1⟩
  | d :: ds, _, i + 1, x, h, e => by
    simp only [RVs] at h
    obtain ⟨v, ws, rfl, h1, h2⟩ := h
    obtain ⟨y, e1, r⟩ := RVs.get (i := i) (x := x) h2 (by simpa using e)
    exact ⟨y, by simpa using e1, r⟩
theorem RVs.getV : ∀ {d : List D} {v : List V} {i : Nat} {y : V}, RVs T μ H d v → v[i]? = some y → ∃ x, d[i]? = some x ∧ RV T μ H x y := fun {d v i y} h e => by
  have hl := h.len
  have hi := (List.getElem?_eq_some_iff.mp e).1
  obtain ⟨z, e1, r⟩ := h.get (List.getElem?_eq_getElem (by omega : i < d.length))
  rw [e] at e1; cases e1
  exact ⟨_, List.getElem?_eq_getElem (by omega), r⟩
theorem RVs.app : ∀ {d e : List D} {v u : List V}, RVs T μ H d v → RVs T μ H e u → RVs T μ H (d ++ e) (v ++ u)
  | [], _, _, _, h, k => by simp only [RVs] at h; subst h; exact k
  | d :: ds, _, _, _, h, k => by
    simp only [RVs] at h
    obtain ⟨v, ws, rfl, h1, h2⟩ := h
    show RVs T μ H (d :: (ds ++ _)) _
    simp only [RVs]
    exact ⟨v, _, rfl, h1, RVs.app h2 k⟩
theorem RVs.one {d : D} {v : V} (h : RV T μ H d v) : RVs T μ H [d] [v] := by simp only [RVs]; exact ⟨v, [], rfl, h, rfl⟩
theorem RVs.set : ∀ {d : List D} {v : List V} {x : D} {y : V} (i : Nat), RVs T μ H d v → RV T μ H x y → RVs T μ H (d.set i x) (v.set i y)
  | [], _, _, _, _, h, k => by simp only [RVs] at h; subst h; simp [RVs]
  | d :: ds, _, _, _, 0, h, k => by
    simp only [RVs] at h
    obtain ⟨v, ws, rfl, h1, h2⟩ := h
    simp only [List.set_cons_zero, RVs]
    exact ⟨_, _, rfl, k, h2⟩
  | d :: ds, _, _, _, i + 1, h, k => by
    simp only [RVs] at h
    obtain ⟨v, ws, rfl, h1, h2⟩ := h
    simp only [List.set_cons_succ, RVs]
    exact ⟨_, _, rfl, h1, RVs.set i h2 k⟩
theorem RVs.take : ∀ {d : List D} {v : List V} (n : Nat), RVs T μ H d v → RVs T μ H (d.take n) (v.take n)
  | _, _, 0, _ => by simp [RVs]
  | [], _, _ + 1, h => by simp only [RVs] at h; subst h; simp [RVs]
  | d :: ds, _, n + 1, h => by
    simp only [RVs] at h
    obtain ⟨v, ws, rfl, h1, h2⟩ := h
    simp only [List.take_succ_cons, RVs]
    exact ⟨_, _, rfl, h1, RVs.take n h2⟩
theorem RVs.drop : ∀ {d : List D} {v : List V} (n : Nat), RVs T μ H d v → RVs T μ H (d.drop n) (v.drop n)
  | _, _, 0, h => by simpa using h
  | [], _, _ + 1, h => by simp only [RVs] at h; subst h; simp [RVs]
  | d :: ds, _, n + 1, h => by
    simp only [RVs] at h
    obtain ⟨v, ws, rfl, h1, h2⟩ := h
    simpa using RVs.drop n h2

/-! ### the store's moves -/
/-- what stands at an address of the store -/
theorem RO.some {d : DObj} (r : RO T μ H d a) : ∃ u, H a = some u ∧ (∀ xs, u ≠ .tup xs) ∧ ∀ o w, u ≠ .frz o w := by
  cases d with
  | lst xs => obtain ⟨vs, e, _⟩ := r; exact ⟨_, e, by simp, by simp⟩
  | ins c fs => obtain ⟨C, dx, vs, _, _, e, _⟩ := r; exact ⟨_, e, by simp, by simp⟩
  | dct kvs => rcases r with ⟨ks, e, _⟩ | ⟨ks, e, _⟩ <;> exact ⟨_, e, by simp, by simp⟩
  | set xs => exact r.elim
theorem SOk.at (s : SOk T μ H st) {n : Nat} (h : μ[n]? = some a) : ∃ o, st[n]? = some o ∧ RO T μ H o a := by
  have hn := (List.getElem?_eq_some_iff.mp h).1
  have e : st[n]? = some (st[n]'(by rw [← s.len]; exact hn)) := List.getElem?_eq_getElem _
  exact ⟨_, e, s.ro n _ a e h⟩
theorem SOk.mem (s : SOk T μ H st) (h : a ∈ μ) : ∃ u, H a = some u ∧ (∀ xs, u ≠ .tup xs) ∧ ∀ o w, u ≠ .frz o w := by
  obtain ⟨n, hn⟩ := List.getElem?_of_mem h
  obtain ⟨o, _, r⟩ := s.at hn
  exact r.some
theorem SOk.fresh (s : SOk T μ H st) (hp : H a = none) : a ∉ μ := fun h => by
  obtain ⟨u, e, _⟩ := s.mem h
  rw [hp] at e; cases e
theorem SOk.there (s : SOk T μ H st) {n : Nat} {o : DObj} (h : st[n]? = some o) : ∃ a, μ[n]? = some a ∧ RO T μ H o a := by
  have hn := (List.getElem?_eq_some_iff.mp h).1
  have e : μ[n]? = some (μ[n]'(by rw [s.len]; exact hn)) := List.getElem?_eq_getElem _
  exact ⟨_, e, s.ro n o _ h e⟩
theorem ex0_new {o : HO} (hp : H a = none) (ν : List Addr) : Ex0 μ H (μ ++ ν) (upd H a o) :=
  ⟨⟨ν, rfl⟩, fun b xs h => by rw [upd_ne (ne_of_none h hp)]; exact h, fun b o xs h => by rw [upd_ne (ne_of_none h hp)]; exact h⟩
/-- a new untracked thing (a tuple, ..) -/
theorem ex_new {o : HO} (hp : H a = none) : Ex μ H μ (upd H a o) := by
  have x := ex0_new (μ := μ) (o := o) hp []
  rw [List.append_nil] at x
  exact ⟨x, fun b u h _ => by rw [upd_ne (ne_of_none h hp)]; exact h, fun b h n => absurd h n⟩
theorem sok_new {o : HO} (s : SOk T μ H st) (hp : H a = none) : SOk T μ (upd H a o) st :=
  ⟨s.len, fun i ob b e1 e2 => (s.ro i ob b e1 e2).mono (ex_new hp) fun u z => by rw [upd_ne (ne_of_none z hp)]; exact z, s.inj⟩
/-- a new object enters the store -/
theorem ex_alloc {o : HO} (hp : H a = none) : Ex μ H (μ ++ [a]) (upd H a o) := by
  refine ⟨ex0_new hp [a], fun b u h _ => by rw [upd_ne (ne_of_none h hp)]; exact h, fun b h n => ?_⟩
  rcases List.mem_append.mp h with z | z
  · exact absurd z n
  · rw [List.mem_singleton.mp z]; exact hp
theorem get_snoc {α : Type} {xs : List α} {y z : α} {i : Nat} (h : (xs ++ [y])[i]? = some z) : xs[i]? = some z ∨ (i = xs.length ∧ z = y) := by
  by_cases hi : i < xs.length
  · rw [List.getElem?_append_left hi] at h; exact .inl h
  · rw [List.getElem?_append_right (by omega)] at h
    have : i - xs.length = 0 := by
      cases e : i - xs.length with
      | zero => rfl
      | succ n => rw [e] at h; simp at h
    rw [this] at h
    simp at h
    exact .inr ⟨by omega, h.symm⟩
theorem inj_snoc (h : ∀ (i j : Nat) (b : Addr), μ[i]? = some b → μ[j]? = some b → i = j) (hn : a ∉ μ) : ∀ (i j : Nat) (b : Addr), (μ ++ [a])[i]? = some b → (μ ++ [a])[j]? = some b → i = j := fun i j b e1 e2 => by
  rcases get_snoc e1 with f1 | ⟨i1, z1⟩ <;> rcases get_snoc e2 with f2 | ⟨i2, z2⟩
  · exact h i j b f1 f2
  · rw [z2] at f1; exact absurd (List.mem_of_getElem? f1) hn
  · rw [z1] at f2; exact absurd (List.mem_of_getElem? f2) hn
  · rw [i1, i2]
theorem sok_snoc {d : DObj} (s : SOk T μ H st) (x : Ex0 μ H (μ ++ [a]) H') (k : ∀ b u, b ∈ μ → H b = some u → H' b = some u) (hn : a ∉ μ) (r : RO T (μ ++ [a]) H' d a) : SOk T (μ ++ [a]) H' (st ++ [d]) := by
  have hl := s.len
  refine ⟨by simp [hl], fun i ob b e1 e2 => ?_, inj_snoc s.inj hn⟩
  rcases get_snoc e1 with e1 | ⟨rfl, rfl⟩
  · have hi := (List.getElem?_eq_some_iff.mp e1).1
    rw [List.getElem?_append_left (by omega)] at e2
    exact (s.ro i ob b e1 e2).mono0 x fun u z => k b u (List.mem_of_getElem? e2) z
  · rw [← hl] at e2
    simp at e2
    subst e2
    exact r
theorem sok_alloc {o : HO} {d : DObj} (s : SOk T μ H st) (hp : H a = none) (r : RO T (μ ++ [a]) (upd H a o) d a) : SOk T (μ ++ [a]) (upd H a o) (st ++ [d]) :=
  sok_snoc s (ex0_new hp [a]) (fun b u _ z => by rw [upd_ne (ne_of_none z hp)]; exact z) (s.fresh hp) r
/-- an object of the store is written -/
theorem ex0_write {o : HO} (s : SOk T μ H st) (h : a ∈ μ) : Ex0 μ H μ (upd H a o) := by
  obtain ⟨u, e, nt, nf⟩ := s.mem h
  refine ⟨⟨[], by simp⟩, fun b xs z => ?_, fun b ob xs z => ?_⟩
  · rw [upd_ne]; exact z
    rintro rfl; rw [e] at z; cases z; exact nt _ rfl
  · rw [upd_ne]; exact z
    rintro rfl; rw [e] at z; cases z; exact nf _ _ rfl
theorem ex_write {o : HO} (s : SOk T μ H st) (h : a ∈ μ) : Ex μ H μ (upd H a o) := by
  refine ⟨ex0_write s h, fun b w z hb => ?_, fun b h n => absurd h n⟩
  rw [upd_ne]; exact z
  rintro rfl; exact hb h
theorem sok_write {n : Nat} {d' : DObj} {o : HO} (s : SOk T μ H st) (h2 : μ[n]? = some a) (r : RO T μ (upd H a o) d' a) : SOk T μ (upd H a o) (st.set n d') := by
  have hm := List.mem_of_getElem? h2
  have hn : n < st.length := by rw [← s.len]; exact (List.getElem?_eq_some_iff.mp h2).1
  refine ⟨by rw [List.length_set]; exact s.len, fun i ob b e1 e2 => ?_, s.inj⟩
  by_cases hi : i = n
  · subst hi
    rw [h2] at e2; cases e2
    rw [List.getElem?_set_self hn] at e1; cases e1
    exact r
  · rw [List.getElem?_set_ne (Ne.symm hi)] at e1
    refine (s.ro i ob b e1 e2).mono0 (ex0_write s hm) fun w z => ?_
    rw [upd_ne]; exact z
    rintro rfl; exact hi (s.inj i n _ e2 h2)
end
end FW

set_option Elab.async false
set_option linter.all false
set_option maxRecDepth 100000
set_option maxHeartbeats 4000000
namespace FW
open PySem PySem.Spec PyProof.Rows L2

/-! ### what is wanted behind -/
def Post {α β : Type} (T : Tb) (R : List Addr → Hp → α → β → Prop) (W : WX) (σ : L2.St) (μ : List Addr) (H : Hp) (r : DRes α) (Q : β → Hp → Prop) : Prop := match r with
  | .ok d st => ∀ μ' v H', SOk T μ' H' st → Ex μ H μ' H' → R μ' H' d v → Q v H'
  | .exc c fs st => ∀ μ' H' C dd xs, SOk T μ' H' st → Ex μ H μ' H' → T.CT[c]? = some C → H' dd = some (.xd xs) → XdR T μ' H' fs xs → W (.ref C) (some dd) σ H'
  | .bad => False
abbrev RB : List Addr → Hp → Bool → Bool → Prop := fun _ _ a b => a = b
section
variable {α β γ δ : Type} {T : Tb} {R : List Addr → Hp → α → β → Prop} {R' : List Addr → Hp → γ → δ → Prop} {W : WX} {σ : L2.St} {μ μ1 : List Addr} {H H1 : Hp}
theorem Post.ex {r : DRes α} {Q : β → Hp → Prop} (h : Post T R W σ μ H r Q) (x : Ex μ H μ1 H1) : Post T R W σ μ1 H1 r Q := by
  cases r with
  | ok d st => exact fun μ' v H' s y rr => h μ' v H' s (x.trans y) rr
  | exc c fs st => exact fun μ' H' C dd xs s y => h μ' H' C dd xs s (x.trans y)
  | bad => exact h
theorem Post.bind {r : DRes α} {f : α → DSto → DRes γ} {Q : δ → Hp → Prop} (h : Post T R' W σ μ H (r.bind f) Q) :
    Post T R W σ μ H r (fun b H1 => ∃ μ1 a st1, SOk T μ1 H1 st1 ∧ Ex μ H μ1 H1 ∧ R μ1 H1 a b ∧ Post T R' W σ μ1 H1 (f a st1) Q) := by
  cases r with
  | ok d st => exact fun μ' v H' s y rr => ⟨μ', d, st, s, y, rr, Post.ex h y⟩
  | exc c fs st => exact h
  | bad => exact h
theorem Post.mono {r : DRes α} {Q Q' : β → Hp → Prop} (h : Post T R W σ μ H r Q) (hq : ∀ v H', Q v H' → Q' v H') : Post T R W σ μ H r Q' := by
  cases r with
  | ok d st => exact fun μ' v H' s y rr => hq _ _ (h μ' v H' s y rr)
  | exc c fs st => exact h
  | bad => exact h
end
/-- an operation on data: its answer and the store behind -/
abbrev OpD := D → D → DSto → Option (D × DSto)
def ofO {α : Type} : Option (α × DSto) → DRes α
  | some (a, st) => .ok a st
  | none => .bad
def PostO (T : Tb) (μ : List Addr) (H : Hp) (r : Option (D × DSto)) (Q : VK) : Prop := match r with
  | some (d, st) => ∀ μ' v H', SOk T μ' H' st → Ex μ H μ' H' → RV T μ' H' d v → Q v H'
  | none => False
theorem PostO.of {T : Tb} {W : WX} {σ : L2.St} {μ : List Addr} {H : Hp} {r : Option (D × DSto)} {Q : VK} (h : Post T (RV T) W σ μ H (ofO r) Q) : PostO T μ H r Q := by
  cases r with
  | none => exact h
  | some p => exact h

/-! ### the judgements -/
def tI (T : Tb) (W : WX) (d : Den) : TE := fun σ H Q => ∃ μ ρ st, SOk T μ H st ∧ EOk T μ H ρ σ ∧ Post T (RV T) W σ μ H (d ρ st) Q
def tT (T : Tb) (W : WX) (d : DenT) : TT := fun σ H Q => ∃ μ ρ st, SOk T μ H st ∧ EOk T μ H ρ σ ∧ Post T RB W σ μ H (d ρ st) Q
def tA (T : Tb) (W : WX) (d : DenA) : TA := fun σ H Q => ∃ μ ρ st, SOk T μ H st ∧ EOk T μ H ρ σ ∧ Post T (RVs T) W σ μ H (d ρ st) Q
def PostS (T : Tb) (W : WX) (D : Ends) (μ : List Addr) (H : Hp) (r : DStm) : Prop := match r with
  | .nx ρ st => ∀ μ' σ' H', SOk T μ' H' st → Ex μ H μ' H' → EOk T μ' H' ρ σ' → D.nx σ' H'
  | .rt d st => ∀ μ' v H', SOk T μ' H' st → Ex μ H μ' H' → RV T μ' H' d v → D.rt v H'
  | .bk ρ st => ∀ μ' σ' H', SOk T μ' H' st → Ex μ H μ' H' → EOk T μ' H' ρ σ' → D.bk σ' H'
  | .ct ρ st => ∀ μ' σ' H', SOk T μ' H' st → Ex μ H μ' H' → EOk T μ' H' ρ σ' → D.ct σ' H'
  | .exc c fs ρ st => ∀ μ' σ' H' C dd xs, SOk T μ' H' st → Ex μ H μ' H' → EOk T μ' H' ρ σ' → T.CT[c]? = some C → H' dd = some (.xd xs) → XdR T μ' H' fs xs → W (.ref C) (some dd) σ' H'
  | .bad => False
def tS (T : Tb) (W : WX) (d : DenS) : TS := fun D σ H => ∃ μ ρ st, SOk T μ H st ∧ EOk T μ H ρ σ ∧ PostS T W D μ H (d ρ st)
abbrev PX (X : Cx) (T : Tb) (W : WX) (e : Expr) (d : Den) : Prop := PE X e (tI T W d)
abbrev PTX (X : Cx) (T : Tb) (W : WX) (e : Expr) (d : DenT) : Prop := PT X e (tT T W d)
abbrev PWX (X : Cx) (T : Tb) (W : WX) (e : Expr) (d : DenT) : Prop := PW X e (tT T W d)
abbrev PAX (X : Cx) (T : Tb) (W : WX) (es : List Expr) (d : DenA) : Prop := PA X es (tA T W d)
abbrev PSX (X : Cx) (T : Tb) (W : WX) (st : Stmt) (d : DenS) : Prop := PS X st (tS T W d)
abbrev PSsX (X : Cx) (T : Tb) (W : WX) (st : List Stmt) (d : DenS) : Prop := PSs X st (tS T W d)
/-- the context fits the tables -/
structure Fits (X : Cx) (T : Tb) (W : WX) : Prop where
  K : X.K = T.K
  tk : Takes X W

section
variable {X : Cx} {T : Tb} {W : WX} {pos : Pos}
theorem pe_imp {e : Expr} {t t' : TE} (h : PE X e t) (f : ∀ σ H Q, t' σ H Q → t σ H Q) : PE X e t' := ⟨fun pins s σ H Q I q => h.run pins s σ H Q I (f σ H Q q)⟩
theorem pt_imp {e : Expr} {t t' : TT} (h : PT X e t) (f : ∀ σ H Q, t' σ H Q → t σ H Q) : PT X e t' := ⟨fun pins s σ H Q I q => h.run pins s σ H Q I (f σ H Q q)⟩
theorem pw_imp {e : Expr} {t t' : TT} (h : PW X e t) (f : ∀ σ H Q, t' σ H Q → t σ H Q) : PW X e t' := ⟨fun wh pins s σ H Q I q => h.run wh pins s σ H Q I (f σ H Q q)⟩
theorem pa_imp {e : List Expr} {t t' : TA} (h : PA X e t) (f : ∀ σ H Q, t' σ H Q → t σ H Q) : PA X e t' := ⟨fun po pins s σ H Q I q => h.run po pins s σ H Q I (f σ H Q q)⟩
theorem ps_imp {e : Stmt} {t t' : TS} (h : PS X e t) (f : ∀ D σ H, t' D σ H → t D σ H) : PS X e t' := ⟨fun pins s σ H D I q => h.run pins s σ H D I (f D σ H q)⟩
theorem pss_imp {e : List Stmt} {t t' : TS} (h : PSs X e t) (f : ∀ D σ H, t' D σ H → t D σ H) : PSs X e t' := ⟨fun pins s σ H D I q => h.run pins s σ H D I (f D σ H q)⟩

/-! ### names, constants -/
def dVar (i : Nat) : Den := fun ρ st => match ρ[i]? with
  | some (some d) => .ok d st
  | _ => .bad
def dC (d : D) : Den := fun _ st => .ok d st
theorem px_var (i : Nat) {x : Str} (hN : X.N[i]? = some x := by rfl) (hv : Vis X.env.scope x := by first | exact Or.inl rfl | exact Or.inr (Or.inl rfl) | exact Or.inr (Or.inr rfl)) (hd : (x == ("__debug__" : Str)) = false := by decide)
    (hcd : (x == ("__classdict__" : Str)) = false := by decide) : PX X T W (.Name x pos) (dVar i) :=
  pe_imp (pe_var hN hv hd hcd) fun σ H Q ⟨μ, ρ, st, s, e, h⟩ => by
    unfold dVar at h
    cases q : ρ[i]? with
    | none => rw [q] at h; exact h.elim
    | some o =>
      rw [q] at h
      cases o with
      | none => exact h.elim
      | some d =>
        obtain ⟨v, e1, r⟩ := e.val i d q
        exact ⟨v, e1, h μ v H s .refl r⟩
theorem px_const {e : Expr} {v : V} {d : D} (h : PE X e (tC v)) (r : ∀ μ H, RV T μ H d v) : PX X T W e (dC d) :=
  pe_imp h fun σ H Q ⟨μ, ρ, st, s, e, h⟩ => h μ v H s .refl (r μ H)
theorem px_int {i : Int} {j} : PX X T W (.Constant (.int i) j pos) (dC (.int i)) := px_const pe_int fun _ _ => by simp [RV]
theorem px_bl {b : Bool} {j} : PX X T W (.Constant (.bool b) j pos) (dC (.bl b)) := px_const pe_bl fun _ _ => by simp [RV]
theorem px_non {j} : PX X T W (.Constant .none j pos) (dC .non) := px_const pe_non fun _ _ => by simp [RV]
theorem px_str {x : Str} {j} : PX X T W (.Constant (.str x) j pos) (dC (.str x)) := px_const pe_str fun _ _ => by simp [RV]

/-! ### operators -/
def rD (T : Tb) (f : OpD) : R2 := fun x y H Q => ∃ μ d e st, SOk T μ H st ∧ RV T μ H d x ∧ RV T μ H e y ∧ PostO T μ H (f d e st) Q
abbrev OpX (X : Cx) (T : Tb) (F : Value → Value → Sem Value) (f : OpD) : Prop := OpR X F (rD T f)
theorem OpR.imp {F : Value → Value → Sem Value} {r r' : R2} (h : OpR X F r) (f : ∀ x y H Q, r' x y H Q → r x y H Q) : OpR X F r' := fun pins s σ H x y v u Q I rx ry q => h pins s σ H x y v u Q I rx ry (f x y H Q q)
def dOp (f : OpD) (a b : Den) : Den := fun ρ st => (a ρ st).bind fun x st => (b ρ st).bind fun y st => ofO (f x y st)
theorem tOp_of {f : OpD} {a b : Den} {σ : L2.St} {H : Hp} {Q : VK} (h : tI T W (dOp f a b) σ H Q) : tOp (rD T f) (tI T W a) (tI T W b) σ H Q := by
  obtain ⟨μ, ρ, st, s, e, h⟩ := h
  refine ⟨μ, ρ, st, s, e, (Post.bind (R := RV T) h).mono fun v H1 ⟨μ1, x, st1, s1, x1, r1, h1⟩ => ?_⟩
  refine ⟨μ1, ρ, st1, s1, e.ex x1, (Post.bind (R := RV T) h1).mono fun u H2 ⟨μ2, y, st2, s2, x2, r2, h2⟩ => ?_⟩
  exact ⟨μ2, x, y, st2, s2, r1.ex x2, r2, PostO.of h2⟩
theorem px_op {op : Operator} {f : OpD} {a b : Expr} {da db : Den} (ho : OpX X T (binaryOp op) f) (ha : PX X T W a da) (hb : PX X T W b db) : PX X T W (.BinOp a op b pos) (dOp f da db) :=
  pe_imp (pe_op ho ha hb) fun _ _ _ h => tOp_of h
theorem px_cmp {op : CmpOp} {f : OpD} {a b : Expr} {da db : Den} (ho : OpX X T (compareOp op) f) (ha : PX X T W a da) (hb : PX X T W b db) (hm : behindInMarks op b = false := by first | exact nomark _ | rfl) : PX X T W (.Compare a [op] [b] pos) (dOp f da db) :=
  pe_imp (pe_cmpR ho ha hb hm) fun _ _ _ h => tOp_of h
/-- a value that is a bool, as a test -/
def dB (d : Den) : DenT := fun ρ st => (d ρ st).bind fun x st => match x with
  | .bl b => .ok b st
  | _ => .bad
theorem dB_post {d : Den} {σ : L2.St} {μ : List Addr} {H : Hp} {ρ : DEnv} {st : DSto} {Q : Bool → Hp → Prop} (h : Post T RB W σ μ H (dB d ρ st) Q) : Post T (RV T) W σ μ H (d ρ st) (fun x H1 => ∃ c, x = .bl c ∧ Q c H1) := by
  refine (Post.bind (R := RV T) h).mono fun v H1 ⟨μ1, x, st1, s1, x1, r1, h1⟩ => ?_
  cases x with
  | bl b =>
    simp only [RV] at r1
    exact ⟨b, r1, h1 μ1 b H1 s1 .refl rfl⟩
  | _ => exact h1.elim
theorem ptx_cmp {op : CmpOp} {f : OpD} {a b : Expr} {da db : Den} (ho : OpX X T (compareOp op) f) (ha : PX X T W a da) (hb : PX X T W b db) (hm : behindInMarks op b = false := by first | exact nomark _ | rfl) : PTX X T W (.Compare a [op] [b] pos) (dB (dOp f da db)) :=
  pt_imp (pt_cmpR ho ha hb hm) fun σ H Q ⟨μ, ρ, st, s, e, h⟩ => tOp_of ⟨μ, ρ, st, s, e, dB_post h⟩
theorem ptx_val {e : Expr} {d : Den} (h : PX X T W e d) (he : ∀ whole, isTrue e X.env whole = (do let v ← whole; standAt e.pos; holding [v] (truthy v)) := by intro _; rfl) : PTX X T W e (dB d) :=
  pt_imp (pt_val h he) fun σ H Q ⟨μ, ρ, st, s, e, h⟩ => ⟨μ, ρ, st, s, e, dB_post h⟩
/-- a < b < c, the middle one asked once -/
def dChain (f g : OpD) (a b c : Den) : Den := fun ρ st => (a ρ st).bind fun x st => (b ρ st).bind fun y st => (ofO (f x y st)).bind fun k st => match k with
  | .bl true => (c ρ st).bind fun z st => ofO (g y z st)
  | .bl false => .ok (.bl false) st
  | _ => .bad
theorem PostO.of_bind {α β : Type} {R : List Addr → Hp → α → β → Prop} {σ : L2.St} {μ : List Addr} {H : Hp} {r : Option (D × DSto)} {f : D → DSto → DRes α} {Q : β → Hp → Prop} (h : Post T R W σ μ H ((ofO r).bind f) Q) :
    PostO T μ H r (fun b H1 => ∃ μ1 a st1, SOk T μ1 H1 st1 ∧ Ex μ H μ1 H1 ∧ RV T μ1 H1 a b ∧ Post T R W σ μ1 H1 (f a st1) Q) := PostO.of (W := W) (σ := σ) (Post.bind (R := RV T) h)
theorem tChain_of {f g : OpD} {a b c : Den} {σ : L2.St} {H : Hp} {Q : VK} (h : tI T W (dChain f g a b c) σ H Q) : tChain (rD T f) (rD T g) (tI T W a) (tI T W b) (tI T W c) σ H Q := by
  obtain ⟨μ, ρ, st, s, e, h⟩ := h
  refine ⟨μ, ρ, st, s, e, (Post.bind (R := RV T) h).mono fun v H1 ⟨μ1, x, st1, s1, x1, r1, h1⟩ => ?_⟩
  refine ⟨μ1, ρ, st1, s1, e.ex x1, (Post.bind (R := RV T) h1).mono fun u H2 ⟨μ2, y, st2, s2, x2, r2, h2⟩ => ?_⟩
  have h3 := PostO.of_bind h2
  refine ⟨μ2, x, y, st2, s2, r1.ex x2, r2, ?_⟩
  cases q : f x y st2 with
  | none => rw [q] at h3; exact h3
  | some p =>
    rw [q] at h3
    intro μ3 v3 H3 s3 x3 r3
    obtain ⟨μ4, k, st4, s4, x4, r4, h4⟩ := h3 μ3 v3 H3 s3 x3 r3
    cases k with
    | bl k =>
      simp only [RV] at r4
      refine ⟨k, r4, ?_⟩
      cases k with
      | false => exact h4 μ4 _ H3 s4 .refl (by simp [RV])
      | true =>
        refine ⟨μ4, ρ, st4, s4, (e.ex x1).ex (x2.trans x4), (Post.bind (R := RV T) h4).mono fun w H5 ⟨μ5, z, st5, s5, x5, r5, h5⟩ => ?_⟩
        exact ⟨μ5, y, z, st5, s5, (r2.ex x4).ex x5, r5, PostO.of h5⟩
    | _ => exact h4.elim
theorem px_chain {op op' : CmpOp} {f g : OpD} {a b c : Expr} {da db dc : Den} (ho : OpX X T (compareOp op) f) (ho' : OpX X T (compareOp op') g) (ha : PX X T W a da) (hb : PX X T W b db) (hc : PX X T W c dc) (hm : lastMarks [op, op'] [b, c] = false := by with_unfolding_all rfl) : PX X T W (.Compare a [op, op'] [b, c] pos) (dChain f g da db dc) :=
  pe_imp (pe_chain ho ho' ha hb hc hm) fun _ _ _ h => tChain_of h
theorem ptx_chain {op op' : CmpOp} {f g : OpD} {a b c : Expr} {da db dc : Den} (ho : OpX X T (compareOp op) f) (ho' : OpX X T (compareOp op') g) (ha : PX X T W a da) (hb : PX X T W b db) (hc : PX X T W c dc) (hm : lastMarks [op, op'] [b, c] = false := by with_unfolding_all rfl) : PTX X T W (.Compare a [op, op'] [b, c] pos) (dB (dChain f g da db dc)) :=
  pt_imp (pt_chain ho ho' ha hb hc hm) fun σ H Q ⟨μ, ρ, st, s, e, h⟩ => tChain_of ⟨μ, ρ, st, s, e, dB_post h⟩

/-! ### and, or, not -/
def dAnd (a b : DenT) : DenT := fun ρ st => (a ρ st).bind fun x st => if x = true then b ρ st else .ok false st
def dOr (a b : DenT) : DenT := fun ρ st => (a ρ st).bind fun x st => if x = true then .ok true st else b ρ st
def dNot (a : DenT) : DenT := fun ρ st => (a ρ st).bind fun x st => .ok (!x) st
def dIf (t : DenT) (a b : Den) : Den := fun ρ st => (t ρ st).bind fun x st => if x = true then a ρ st else b ρ st
def dAndV (a b : Den) : Den := fun ρ st => (a ρ st).bind fun x st => match x with
  | .bl true => b ρ st
  | .bl false => .ok (.bl false) st
  | _ => .bad
def dOrV (a b : Den) : Den := fun ρ st => (a ρ st).bind fun x st => match x with
  | .bl true => .ok (.bl true) st
  | .bl false => b ρ st
  | _ => .bad
def dNotV (a : Den) : Den := fun ρ st => (a ρ st).bind fun x st => match x with
  | .bl b => .ok (.bl (!b)) st
  | _ => .bad
variable {a b c : Expr} {rest : List Expr} {da db : Den} {ta tb : DenT}
theorem pwx_and1 (ha : PTX X T W a ta) : PWX X T W (.BoolOp .And [a] pos) ta := pw_and1 ha
theorem pwx_or1 (ha : PTX X T W a ta) : PWX X T W (.BoolOp .Or [a] pos) ta := pw_or1 ha
theorem pwx_and (ha : PTX X T W a ta) (hb : PWX X T W (.BoolOp .And (b :: rest) pos) tb) : PWX X T W (.BoolOp .And (a :: b :: rest) pos) (dAnd ta tb) :=
  pw_imp (pw_and ha hb) fun σ H Q ⟨μ, ρ, st, s, e, h⟩ => by
    refine ⟨μ, ρ, st, s, e, (Post.bind (R := RB) h).mono fun k H1 ⟨μ1, k', st1, s1, x1, r1, h1⟩ => ?_⟩
    obtain rfl : k' = k := r1
    cases k' with
    | true => exact ⟨μ1, ρ, st1, s1, e.ex x1, h1⟩
    | false => exact h1 μ1 _ H1 s1 .refl rfl
theorem pwx_or (ha : PTX X T W a ta) (hb : PWX X T W (.BoolOp .Or (b :: rest) pos) tb) : PWX X T W (.BoolOp .Or (a :: b :: rest) pos) (dOr ta tb) :=
  pw_imp (pw_or ha hb) fun σ H Q ⟨μ, ρ, st, s, e, h⟩ => by
    refine ⟨μ, ρ, st, s, e, (Post.bind (R := RB) h).mono fun k H1 ⟨μ1, k', st1, s1, x1, r1, h1⟩ => ?_⟩
    obtain rfl : k' = k := r1
    cases k' with
    | true => exact h1 μ1 _ H1 s1 .refl rfl
    | false => exact ⟨μ1, ρ, st1, s1, e.ex x1, h1⟩
theorem ptx_bool (h : PWX X T W a ta) : PTX X T W a ta := PW.pt h
theorem ptx_not (ha : PTX X T W a ta) : PTX X T W (.UnaryOp .Not a pos) (dNot ta) :=
  pt_imp (pt_not ha) fun σ H Q ⟨μ, ρ, st, s, e, h⟩ => by
    refine ⟨μ, ρ, st, s, e, (Post.bind (R := RB) h).mono fun k H1 ⟨μ1, k', st1, s1, x1, r1, h1⟩ => ?_⟩
    cases r1
    exact h1 μ1 _ H1 s1 .refl rfl
theorem px_if (hc : PTX X T W c ta) (ha : PX X T W a da) (hb : PX X T W b db) : PX X T W (.IfExp c a b pos) (dIf ta da db) :=
  pe_imp (pe_ifExp hc ha hb) fun σ H Q ⟨μ, ρ, st, s, e, h⟩ => by
    refine ⟨μ, ρ, st, s, e, (Post.bind (R := RB) h).mono fun k H1 ⟨μ1, k', st1, s1, x1, r1, h1⟩ => ?_⟩
    obtain rfl : k' = k := r1
    cases k' with
    | true => exact ⟨μ1, ρ, st1, s1, e.ex x1, h1⟩
    | false => exact ⟨μ1, ρ, st1, s1, e.ex x1, h1⟩
theorem px_one {op} (h : PX X T W a da) : PX X T W (.BoolOp op [a] pos) da := pe_one h
theorem px_and (ha : PX X T W a da) (hb : PX X T W (.BoolOp .And (b :: rest) pos) db) : PX X T W (.BoolOp .And (a :: b :: rest) pos) (dAndV da db) :=
  pe_imp (pe_and ha hb) fun σ H Q ⟨μ, ρ, st, s, e, h⟩ => by
    refine ⟨μ, ρ, st, s, e, (Post.bind (R := RV T) h).mono fun k H1 ⟨μ1, k', st1, s1, x1, r1, h1⟩ => ?_⟩
    cases k' with
    | bl k =>
      simp only [RV] at r1
      refine ⟨k, r1, ?_⟩
      cases k with
      | true => exact ⟨μ1, ρ, st1, s1, e.ex x1, h1⟩
      | false => exact h1 μ1 _ H1 s1 .refl (by simp [RV])
    | _ => exact h1.elim
theorem px_or (ha : PX X T W a da) (hb : PX X T W (.BoolOp .Or (b :: rest) pos) db) : PX X T W (.BoolOp .Or (a :: b :: rest) pos) (dOrV da db) :=
  pe_imp (pe_or ha hb) fun σ H Q ⟨μ, ρ, st, s, e, h⟩ => by
    refine ⟨μ, ρ, st, s, e, (Post.bind (R := RV T) h).mono fun k H1 ⟨μ1, k', st1, s1, x1, r1, h1⟩ => ?_⟩
    cases k' with
    | bl k =>
      simp only [RV] at r1
      refine ⟨k, r1, ?_⟩
      cases k with
      | true => exact h1 μ1 _ H1 s1 .refl (by simp [RV])
      | false => exact ⟨μ1, ρ, st1, s1, e.ex x1, h1⟩
    | _ => exact h1.elim
theorem px_not (ha : PX X T W a da) : PX X T W (.UnaryOp .Not a pos) (dNotV da) :=
  pe_imp (pe_not ha) fun σ H Q ⟨μ, ρ, st, s, e, h⟩ => by
    refine ⟨μ, ρ, st, s, e, (Post.bind (R := RV T) h).mono fun k H1 ⟨μ1, k', st1, s1, x1, r1, h1⟩ => ?_⟩
    cases k' with
    | bl k =>
      simp only [RV] at r1
      exact ⟨k, r1, h1 μ1 _ H1 s1 .refl (by simp [RV])⟩
    | _ => exact h1.elim

/-! ### argument lists, displays -/
def dNil : DenA := fun _ st => .ok [] st
def dCons (a : Den) (r : DenA) : DenA := fun ρ st => (a ρ st).bind fun x st => (r ρ st).bind fun xs st => .ok (x :: xs) st
/-- the items of a tuple or a list -/
def itemsD (d : D) (st : DSto) : Option (List D) := match d with
  | .tup xs => some xs
  | .ref n => match st[n]? with
    | some (.lst xs) => some xs
    | _ => none
  | .scr ns => some (ns.map D.int)
  | _ => none
def dStar (a : Den) (r : DenA) : DenA := fun ρ st => (a ρ st).bind fun x st => match itemsD x st with
  | some ys => (r ρ st).bind fun xs st => .ok (ys ++ xs) st
  | none => .bad
theorem rvs_ints {μ : List Addr} {H : Hp} : ∀ ns : List Int, RVs T μ H (ns.map D.int) (ns.map V.int)
  | [] => by simp [RVs]
  | n :: ns => by simp only [List.map_cons, RVs]; exact ⟨_, _, rfl, by simp [RV], rvs_ints ns⟩
theorem items_of {K : PySem.W.Frag} {μ : List Addr} {H : Hp} {st : DSto} {d : D} {v : V} {xs : List D} (hK : K = T.K) (s : SOk T μ H st) (r : RV T μ H d v) (h : itemsD d st = some xs) :
    ∃ a vs, v = .ref a ∧ RVs T μ H xs vs ∧ (SqL K H a vs ∨ SqT K H a vs) := by
  subst hK
  cases d with
  | tup ys =>
    simp only [RV] at r
    obtain ⟨a, vs, rfl, e, rr⟩ := r
    cases (show some ys = some xs from h)
    exact ⟨a, vs, rfl, rr, .inr (SqT.of e)⟩
  | ref n =>
    simp only [RV] at r
    obtain ⟨a, rfl, e⟩ := r
    unfold itemsD at h
    dsimp only at h
    cases q : st[n]? with
    | none => rw [q] at h; cases h
    | some o =>
      rw [q] at h
      have ro := s.ro n o a q e
      cases o with
      | lst ys =>
        cases (show some ys = some xs from h)
        obtain ⟨vs, e1, rr⟩ := ro
        exact ⟨a, vs, rfl, rr, .inl (SqL.of e1)⟩
      | _ => cases h
  | scr ns =>
    simp only [RV] at r
    obtain ⟨a, rfl, e⟩ := r
    cases (show some (ns.map D.int) = some xs from h)
    refine ⟨a, ns.map V.int, rfl, rvs_ints ns, .inl ?_⟩
    rcases e with ⟨o, e⟩ | e
    · exact .inl (.inr ⟨o, e⟩)
    · exact .inr e
  | _ => cases h
variable {e : Expr} {es : List Expr} {d : Den} {t : DenA}
theorem pax_nil : PAX X T W [] dNil := pa_imp pa_nil fun σ H Q ⟨μ, ρ, st, s, e, h⟩ => h μ [] H s .refl (by simp [RVs])
theorem pax_cons (ha : PX X T W e d) (hr : PAX X T W es t) (hs : starEach (e :: es) X.env = (false, eval e X.env) :: starEach es X.env := by rfl) : PAX X T W (e :: es) (dCons d t) :=
  pa_imp (pa_cons ha hr hs) fun σ H Q ⟨μ, ρ, st, s, e, h⟩ => by
    refine ⟨μ, ρ, st, s, e, (Post.bind (R := RV T) h).mono fun v H1 ⟨μ1, x, st1, s1, x1, r1, h1⟩ => ?_⟩
    refine ⟨μ1, ρ, st1, s1, e.ex x1, (Post.bind (R := RVs T) h1).mono fun vs H2 ⟨μ2, xs, st2, s2, x2, r2, h2⟩ => ?_⟩
    exact h2 μ2 _ H2 s2 .refl (by simp only [RVs]; exact ⟨v, vs, rfl, r1.ex x2, r2⟩)
theorem pax_star {p : Pos} (hF : Fits X T W) (ha : PX X T W e d) (hr : PAX X T W es t) (hs : starEach (.Starred e p :: es) X.env = (true, eval e X.env) :: starEach es X.env := by rfl) : PAX X T W (.Starred e p :: es) (dStar d t) :=
  pa_imp (StX.pa_star ha hr hs) fun σ H Q ⟨μ, ρ, st, s, e, h⟩ => by
    refine ⟨μ, ρ, st, s, e, (Post.bind (R := RV T) h).mono fun v H1 ⟨μ1, x, st1, s1, x1, r1, h1⟩ => ?_⟩
    cases q : itemsD x st1 with
    | none => rw [q] at h1; exact h1.elim
    | some ys =>
      rw [q] at h1
      obtain ⟨a, vs, rfl, rr, sq⟩ := items_of hF.K s1 r1 q
      refine ⟨a, vs, rfl, sq.symm, μ1, ρ, st1, s1, e.ex x1, (Post.bind (R := RVs T) h1).mono fun us H2 ⟨μ2, xs, st2, s2, x2, r2, h2⟩ => ?_⟩
      exact h2 μ2 _ H2 s2 .refl ((rr.ex x2).app r2)
def mkTup (xs : List D) (st : DSto) : DRes D := if xs.length ≤ sizeLine then .ok (.tup xs) st else .bad
def mkLst (xs : List D) (st : DSto) : DRes D := if xs.length ≤ sizeLine then .ok (.ref st.length) (st ++ [.lst xs]) else .bad
def dTup (t : DenA) : Den := fun ρ st => (t ρ st).bind mkTup
def dLst (t : DenA) : Den := fun ρ st => (t ρ st).bind mkLst
theorem upd_tup_ok {μ : List Addr} {H : Hp} {st : DSto} {xs : List D} {vs : List V} {p : Addr} (s : SOk T μ H st) (r : RVs T μ H xs vs) (hp : H p = none) :
    SOk T μ (upd H p (.tup vs)) st ∧ Ex μ H μ (upd H p (.tup vs)) ∧ RV T μ (upd H p (.tup vs)) (.tup xs) (.ref p) :=
  ⟨sok_new s hp, ex_new hp, by simp only [RV]; exact ⟨p, vs, rfl, upd_same, r.ex (ex_new hp)⟩⟩
theorem new_ok {μ : List Addr} {H : Hp} {st : DSto} {o : HO} {d : DObj} {p : Addr} (s : SOk T μ H st) (hp : H p = none) (r : RO T (μ ++ [p]) (upd H p o) d p) :
    SOk T (μ ++ [p]) (upd H p o) (st ++ [d]) ∧ Ex μ H (μ ++ [p]) (upd H p o) ∧ RV T (μ ++ [p]) (upd H p o) (.ref st.length) (.ref p) :=
  ⟨sok_alloc s hp r, ex_alloc hp, by simp only [RV]; exact ⟨p, rfl, by rw [← s.len]; simp⟩⟩
theorem upd_lst_ok {μ : List Addr} {H : Hp} {st : DSto} {xs : List D} {vs : List V} {p : Addr} (s : SOk T μ H st) (r : RVs T μ H xs vs) (hp : H p = none) :
    SOk T (μ ++ [p]) (upd H p (.lst vs)) (st ++ [.lst xs]) ∧ Ex μ H (μ ++ [p]) (upd H p (.lst vs)) ∧ RV T (μ ++ [p]) (upd H p (.lst vs)) (.ref st.length) (.ref p) :=
  new_ok s hp ⟨vs, upd_same, r.ex (ex_alloc hp)⟩
theorem px_tup {x1} (h : PAX X T W es t) : PX X T W (.Tuple es x1 pos) (dTup t) :=
  pe_imp (pe_tup h) fun σ H Q ⟨μ, ρ, st, s, e, h⟩ => by
    refine ⟨μ, ρ, st, s, e, (Post.bind (R := RVs T) h).mono fun vs H1 ⟨μ1, xs, st1, s1, x1, r1, h1⟩ => ?_⟩
    unfold mkTup at h1
    by_cases hz : xs.length ≤ sizeLine
    · rw [if_pos hz] at h1
      refine ⟨by rw [r1.len]; exact hz, fun p hp => ?_⟩
      obtain ⟨a1, a2, a3⟩ := upd_tup_ok s1 r1 hp
      exact h1 μ1 _ _ a1 a2 a3
    · rw [if_neg hz] at h1; exact h1.elim
theorem px_lst (h : PAX X T W es t) : PX X T W (.List es pos) (dLst t) :=
  pe_imp (pe_lst h) fun σ H Q ⟨μ, ρ, st, s, e, h⟩ => by
    refine ⟨μ, ρ, st, s, e, (Post.bind (R := RVs T) h).mono fun vs H1 ⟨μ1, xs, st1, s1, x1, r1, h1⟩ => ?_⟩
    unfold mkLst at h1
    by_cases hz : xs.length ≤ sizeLine
    · rw [if_pos hz] at h1
      refine ⟨by rw [r1.len]; exact hz, fun p hp => ?_⟩
      obtain ⟨a1, a2, a3⟩ := upd_lst_ok s1 r1 hp
      exact h1 _ _ _ a1 a2 a3
    · rw [if_neg hz] at h1; exact h1.elim
end
end FW

set_option Elab.async false
set_option linter.all false
set_option maxRecDepth 100000
set_option maxHeartbeats 4000000
namespace FW
open PySem PySem.Spec PyProof.Rows L2

def DRes.toS {α : Type} (r : DRes α) (ρ : DEnv) (f : α → DSto → DStm) : DStm := match r with
  | .ok a st => f a st
  | .exc c fs st => .exc c fs ρ st
  | .bad => .bad
@[simp] theorem toS_ok {α : Type} (a : α) (st : DSto) (ρ : DEnv) (f : α → DSto → DStm) : (DRes.ok a st).toS ρ f = f a st := id rfl
@[simp] theorem toS_exc {α : Type} (c : Nat) (fs) (st : DSto) (ρ : DEnv) (f : α → DSto → DStm) : (DRes.exc c fs st : DRes α).toS ρ f = .exc c fs ρ st := id rfl
@[simp] theorem toS_bad {α : Type} (ρ : DEnv) (f : α → DSto → DStm) : (DRes.bad : DRes α).toS ρ f = .bad := id rfl
def DStm.andThen (r : DStm) (b : DenS) : DStm := match r with
  | .nx ρ st => b ρ st
  | r => r
@[simp] theorem andThen_nx (ρ : DEnv) (st : DSto) (b : DenS) : (DStm.nx ρ st).andThen b = b ρ st := id rfl
@[simp] theorem andThen_rt (d : D) (st : DSto) (b : DenS) : (DStm.rt d st).andThen b = .rt d st := id rfl
@[simp] theorem andThen_bk (ρ : DEnv) (st : DSto) (b : DenS) : (DStm.bk ρ st).andThen b = .bk ρ st := id rfl
@[simp] theorem andThen_ct (ρ : DEnv) (st : DSto) (b : DenS) : (DStm.ct ρ st).andThen b = .ct ρ st := id rfl
@[simp] theorem andThen_exc (c : Nat) (fs) (ρ : DEnv) (st : DSto) (b : DenS) : (DStm.exc c fs ρ st).andThen b = .exc c fs ρ st := id rfl
@[simp] theorem andThen_bad (b : DenS) : DStm.bad.andThen b = .bad := id rfl

section
variable {α β : Type} {T : Tb} {R : List Addr → Hp → α → β → Prop} {W : WX} {σ : L2.St} {μ μ1 : List Addr} {H H1 : Hp} {D D' : Ends}
theorem PostS.ex {r : DStm} (h : PostS T W D μ H r) (x : Ex μ H μ1 H1) : PostS T W D μ1 H1 r := by
  cases r with
  | nx ρ st => exact fun μ' σ' H' s y e => h μ' σ' H' s (x.trans y) e
  | rt d st => exact fun μ' v H' s y e => h μ' v H' s (x.trans y) e
  | bk ρ st => exact fun μ' σ' H' s y e => h μ' σ' H' s (x.trans y) e
  | ct ρ st => exact fun μ' σ' H' s y e => h μ' σ' H' s (x.trans y) e
  | exc c fs ρ st => exact fun μ' σ' H' C dd xs s y => h μ' σ' H' C dd xs s (x.trans y)
  | bad => exact h
theorem PostS.bind {r : DRes α} {ρ : DEnv} {f : α → DSto → DStm} (h : PostS T W D μ H (r.toS ρ f)) (e : EOk T μ H ρ σ) :
    Post T R W σ μ H r (fun b H1 => ∃ μ1 a st1, SOk T μ1 H1 st1 ∧ Ex μ H μ1 H1 ∧ R μ1 H1 a b ∧ PostS T W D μ1 H1 (f a st1)) := by
  cases r with
  | ok d st => exact fun μ' v H' s y rr => ⟨μ', d, st, s, y, rr, PostS.ex h y⟩
  | exc c fs st => exact fun μ' H' C dd xs s y => h μ' σ H' C dd xs s y (e.ex y)
  | bad => exact h
theorem PostS.seq {r : DStm} {b : DenS} (h : PostS T W D μ H (r.andThen b)) : PostS T W { D with nx := tS T W b D } μ H r := by
  cases r with
  | nx ρ st => exact fun μ' σ' H' s y e => ⟨μ', ρ, st, s, e, PostS.ex h y⟩
  | rt d st => exact h
  | bk ρ st => exact h
  | ct ρ st => exact h
  | exc c fs ρ st => exact h
  | bad => exact h
end

section
variable {X : Cx} {T : Tb} {W : WX} {pos : Pos} {st : Stmt} {rest : List Stmt} {a b : DenS} {e : Expr} {d : Den}
def dSkip : DenS := fun ρ st => .nx ρ st
def dSeq (a b : DenS) : DenS := fun ρ st => (a ρ st).andThen b
theorem pssx_nil : PSsX X T W [] dSkip := pss_imp pss_nil fun D σ H ⟨μ, ρ, st, s, e, h⟩ => h μ σ H s .refl e
theorem pssx_one (h : PSX X T W st a) : PSsX X T W [st] a := pss_one h
theorem pssx_cons (h1 : PSX X T W st a) (h2 : PSsX X T W rest b) : PSsX X T W (st :: rest) (dSeq a b) :=
  pss_imp (pss_cons h1 h2) fun D σ H ⟨μ, ρ, st, s, e, h⟩ => ⟨μ, ρ, st, s, e, PostS.seq h⟩
theorem psx_pass : PSX X T W (.Pass pos) dSkip := ps_imp ps_pass fun D σ H ⟨μ, ρ, st, s, e, h⟩ => h μ σ H s .refl e
def dBreak : DenS := fun ρ st => .bk ρ st
def dCont : DenS := fun ρ st => .ct ρ st
theorem psx_break : PSX X T W (.Break pos) dBreak := ps_imp ps_break fun D σ H ⟨μ, ρ, st, s, e, h⟩ => h μ σ H s .refl e
theorem psx_cont : PSX X T W (.Continue pos) dCont := ps_imp ps_continue fun D σ H ⟨μ, ρ, st, s, e, h⟩ => h μ σ H s .refl e
def dExpr (d : Den) : DenS := fun ρ st => (d ρ st).toS ρ fun _ st => .nx ρ st
theorem psx_expr (h : PX X T W e d) (hs : swapsWith e none pos.line X.env = pure false := by rfl) : PSX X T W (.Expr e pos) (dExpr d) :=
  ps_imp (ps_expr h hs) fun D σ H ⟨μ, ρ, st, s, e, h⟩ => ⟨μ, ρ, st, s, e, (PostS.bind (R := RV T) h e).mono fun v H1 ⟨μ1, x, st1, s1, x1, r1, h1⟩ => h1 μ1 σ H1 s1 .refl (e.ex x1)⟩
def dRet (d : Den) : DenS := fun ρ st => (d ρ st).toS ρ fun x st => .rt x st
theorem psx_ret (h : PX X T W e d) : PSX X T W (.Return (some e) pos) (dRet d) :=
  ps_imp (ps_ret h) fun D σ H ⟨μ, ρ, st, s, e, h⟩ => ⟨μ, ρ, st, s, e, (PostS.bind (R := RV T) h e).mono fun v H1 ⟨μ1, x, st1, s1, x1, r1, h1⟩ => h1 μ1 v H1 s1 .refl r1⟩
def dRetN : DenS := fun _ st => .rt .non st
theorem psx_retN : PSX X T W (.Return none pos) dRetN := ps_imp ps_retN fun D σ H ⟨μ, ρ, st, s, e, h⟩ => h μ .non H s .refl (by simp [RV])
def dIfS (t : DenT) (a b : DenS) : DenS := fun ρ st => (t ρ st).toS ρ fun k st => if k = true then a ρ st else b ρ st
theorem psx_if {c : Expr} {x y : List Stmt} {t : DenT} (hc : PTX X T W c t) (ha : PSsX X T W x a) (hb : PSsX X T W y b) : PSX X T W (.If c x y pos) (dIfS t a b) :=
  ps_imp (ps_if hc ha hb) fun D σ H ⟨μ, ρ, st, s, e, h⟩ => ⟨μ, ρ, st, s, e, (PostS.bind (R := RB) h e).mono fun k H1 ⟨μ1, k', st1, s1, x1, r1, h1⟩ => by
    obtain rfl : k' = k := r1
    cases k' with
    | true => exact ⟨μ1, ρ, st1, s1, e.ex x1, h1⟩
    | false => exact ⟨μ1, ρ, st1, s1, e.ex x1, h1⟩⟩

/-! ### targets -/
abbrev DenG := D → DEnv → DSto → Option (DEnv × DSto)
/-- only the slots sl may have changed -/
def SlEq (sl : List Nat) (σ σ' : L2.St) : Prop := σ'.length = σ.length ∧ ∀ j, j ∉ sl → σ'[j]? = σ[j]?
theorem SlEq.refl {sl : List Nat} {σ : L2.St} : SlEq sl σ σ := ⟨rfl, fun _ _ => rfl⟩
def PostG (T : Tb) (sl : List Nat) (σ : L2.St) (μ : List Addr) (H : Hp) (r : Option (DEnv × DSto)) (Q : L2.St → Hp → Prop) : Prop := match r with
  | some (ρ', st') => ∀ μ' σ' H', SOk T μ' H' st' → Ex μ H μ' H' → EOk T μ' H' ρ' σ' → SlEq sl σ σ' → Q σ' H'
  | none => False
def tG (T : Tb) (sl : List Nat) (g : DenG) : TG := fun v σ H Q => ∃ μ d ρ st, SOk T μ H st ∧ RV T μ H d v ∧ EOk T μ H ρ σ ∧ PostG T sl σ μ H (g d ρ st) Q
abbrev PGX (X : Cx) (T : Tb) (sl : List Nat) (tg : Expr) (g : DenG) : Prop := PG X tg (tG T sl g)
abbrev DenGs := List D → DEnv → DSto → Option (DEnv × DSto)
def tGs (T : Tb) (sl : List Nat) (g : DenGs) : TGs := fun vs σ H Q => ∃ μ ds ρ st, SOk T μ H st ∧ RVs T μ H ds vs ∧ EOk T μ H ρ σ ∧ PostG T sl σ μ H (g ds ρ st) Q
abbrev PGsX (X : Cx) (T : Tb) (sl : List Nat) (tg : List Expr) (g : DenGs) : Prop := PGs X tg (tGs T sl g)
theorem pg_imp {tg : Expr} {t t' : TG} (h : PG X tg t) (f : ∀ v σ H Q, t' v σ H Q → t v σ H Q) : PG X tg t' := ⟨fun pins s σ H v u Q I r q => h.run pins s σ H v u Q I r (f v σ H Q q)⟩
theorem pgs_imp {tg : List Expr} {t t' : TGs} (h : PGs X tg t) (f : ∀ v σ H Q, t' v σ H Q → t v σ H Q) : PGs X tg t' := ⟨fun pins s σ H v u Q I r q => h.run pins s σ H v u Q I r (f v σ H Q q)⟩
def gdName (i : Nat) : DenG := fun d ρ st => some (ρ.set i (some d), st)
theorem EOk.set {μ : List Addr} {H : Hp} {ρ : DEnv} {σ : L2.St} {d : D} {v : V} (e : EOk T μ H ρ σ) (i : Nat) (r : RV T μ H d v) : EOk T μ H (ρ.set i (some d)) (σ.set i (some v)) := by
  refine ⟨by simp [e.len], fun j x h => ?_⟩
  by_cases hj : i = j
  · subst hj
    by_cases hi : i < ρ.length
    · rw [List.getElem?_set_self hi] at h
      cases h
      exact ⟨v, List.getElem?_set_self (by rw [← e.len]; exact hi), r⟩
    · rw [List.getElem?_eq_none (by simp; omega)] at h; cases h
  · rw [List.getElem?_set_ne hj] at h ⊢
    exact e.val j x h
theorem pgx_name (i : Nat) {x : Str} (hN : X.N.Nodup) (hi : X.N[i]? = some x := by rfl) (hx : Loc X.env.scope x := by first | exact Or.inl rfl | exact Or.inr rfl) (hf : X.fn x = true ∨ X.env.scope.names.lookup x = some .local := by first | exact .inl rfl | exact .inr rfl) :
    PGX X T [i] (.Name x pos) (gdName i) :=
  pg_imp (pg_name hN hi hx hf) fun v σ H Q ⟨μ, d, ρ, st, s, r, e, h⟩ => h μ _ H s .refl (e.set i r) ⟨by simp, fun j hj => List.getElem?_set_ne (by rintro rfl; exact hj (by simp))⟩
def gdNil : DenGs := fun ds ρ st => match ds with
  | [] => some (ρ, st)
  | _ => none
def gdCons (g : DenG) (r : DenGs) : DenGs := fun ds ρ st => match ds with
  | d :: ds => match g d ρ st with
    | some (ρ1, st1) => r ds ρ1 st1
    | none => none
  | [] => none
theorem pgsx_nil : PGsX X T [] [] gdNil := pgs_imp pgs_nil fun vs σ H Q ⟨μ, ds, ρ, st, s, r, e, h⟩ => by
  cases ds with
  | nil => simp only [RVs] at r; exact ⟨r, h μ σ H s .refl e .refl⟩
  | cons _ _ => exact h.elim
theorem pgsx_cons {es : List Expr} {sl sl' : List Nat} {g : DenG} {r : DenGs} (h1 : PGX X T sl e g) (h2 : PGsX X T sl' es r) (hs : (assignEach (e :: es) X.env).map (·.2) = assign e X.env :: (assignEach es X.env).map (·.2) := by rfl) :
    PGsX X T (sl ++ sl') (e :: es) (gdCons g r) := pgs_imp (pgs_cons h1 h2 hs) fun vs σ H Q ⟨μ, ds, ρ, st, s, rv, e, h⟩ => by
  cases ds with
  | nil => exact h.elim
  | cons d ds =>
    simp only [RVs] at rv
    obtain ⟨v, ws, rfl, r1, r2⟩ := rv
    refine ⟨v, ws, rfl, μ, d, ρ, st, s, r1, e, ?_⟩
    simp only [gdCons] at h
    cases q : g d ρ st with
    | none => rw [q] at h; exact h.elim
    | some p =>
      obtain ⟨ρ1, st1⟩ := p
      rw [q] at h
      intro μ1 σ1 H1 s1 x1 e1 k1
      refine ⟨μ1, ds, ρ1, st1, s1, r2.ex x1, e1, ?_⟩
      dsimp only at h
      cases q2 : r ds ρ1 st1 with
      | none => rw [q2] at h; exact h.elim
      | some p2 =>
        obtain ⟨ρ2, st2⟩ := p2
        rw [q2] at h
        exact fun μ2 σ2 H2 s2 x2 e2 k2 => h μ2 σ2 H2 s2 (x1.trans x2) e2 ⟨k2.1.trans k1.1, fun j hj => (k2.2 j fun z => hj (List.mem_append_right _ z)).trans (k1.2 j fun z => hj (List.mem_append_left _ z))⟩
def gdTup (n : Nat) (r : DenGs) : DenG := fun d ρ st => match d with
  | .tup xs => if xs.length = n then r xs ρ st else none
  | _ => none
theorem pgx_tup {es : List Expr} {k : Nat} {sl : List Nat} {r : DenGs} {n : Nat} (hc : X.calm = true) (h : PGsX X T sl es r) (hn : (assignEach es X.env).length = n := by rfl) (hst : (assignEach es X.env).findIdx? (·.1) = none := by rfl) :
    PGX X T sl (.Tuple es k pos) (gdTup n r) := pg_imp (pg_tup hc h hn hst) fun v σ H Q ⟨μ, d, ρ, st, s, rv, e, h⟩ => by
  cases d with
  | tup xs =>
    simp only [RV] at rv
    obtain ⟨a, vs, rfl, e1, rr⟩ := rv
    simp only [gdTup] at h
    by_cases hl : xs.length = n
    · rw [if_pos hl] at h
      exact ⟨a, vs, rfl, SqT.of e1, by rw [rr.len]; exact hl, μ, xs, ρ, st, s, rr, e, h⟩
    · rw [if_neg hl] at h; exact h.elim
  | _ => exact h.elim
/-- o[i] = v on data -/
abbrev SetD := D → D → D → DSto → Option DSto
def PostN (T : Tb) (μ : List Addr) (H : Hp) (r : Option DSto) (Q : Hp → Prop) : Prop := match r with
  | some st => ∀ μ' H', SOk T μ' H' st → Ex μ H μ' H' → Q H'
  | none => False
def rSet (T : Tb) (f : SetD) : TSet := fun o i v H Q => ∃ μ od id d st, SOk T μ H st ∧ RV T μ H od o ∧ RV T μ H id i ∧ RV T μ H d v ∧ PostN T μ H (f od id d st) Q
abbrev SetX (X : Cx) (T : Tb) (f : SetD) : Prop := PSet X (rSet T f)
theorem pset_imp {t t' : TSet} (h : PSet X t) (f : ∀ o i v H Q, t' o i v H Q → t o i v H Q) : PSet X t' := fun pins s σ H o i v ov iv u Q I r1 r2 r3 q => h pins s σ H o i v ov iv u Q I r1 r2 r3 (f o i v H Q q)
def gdSub (o i : Den) (f : SetD) : DenG := fun d ρ st => match o ρ st with
  | .ok x st1 => match i ρ st1 with
    | .ok y st2 => match f x y d st2 with
      | some st3 => some (ρ, st3)
      | none => none
    | _ => none
  | _ => none
theorem pgx_sub {o i : Expr} {od id : Den} {f : SetD} (ho : PX X T W o od) (hi : PX X T W i id) (hs : SetX X T f)
    (ha : ∀ v, assign (.Subscript o i pos) X.env v = (do
      let ov ← holding [v] (eval o X.env)
      let iv ← holding [v, ov] (eval i X.env)
      standAt pos
      holding [v, ov, iv] (setItem ov iv v)
      release [v, ov, iv] []) := by intro _; rfl) : PGX X T [] (.Subscript o i pos) (gdSub od id f) :=
  pg_imp (pg_sub ho hi hs ha) fun v σ H Q ⟨μ, d, ρ, st, s, r, e, h⟩ => by
    unfold gdSub at h
    refine ⟨μ, ρ, st, s, e, ?_⟩
    cases q1 : od ρ st with
    | ok x st1 =>
      simp only [q1] at h
      intro μ1 xv H1 s1 x1 r1
      refine ⟨μ1, ρ, st1, s1, e.ex x1, ?_⟩
      cases q2 : id ρ st1 with
      | ok y st2 =>
        simp only [q2] at h
        intro μ2 yv H2 s2 x2 r2
        refine ⟨μ2, x, y, d, st2, s2, r1.ex x2, r2, (r.ex x1).ex x2, ?_⟩
        cases q3 : f x y d st2 with
        | none => simp only [q3] at h; exact h.elim
        | some st3 =>
          simp only [q3] at h
          exact fun μ3 H3 s3 x3 => h μ3 σ H3 s3 ((x1.trans x2).trans x3) (((e.ex x1).ex x2).ex x3) .refl
      | exc c fs st2 => simp only [q2] at h; exact h.elim
      | bad => simp only [q2] at h; exact h.elim
    | exc c fs st1 => simp only [q1] at h; exact h.elim
    | bad => simp only [q1] at h; exact h.elim
def dAsgG (d : Den) (g : DenG) : DenS := fun ρ st => (d ρ st).toS ρ fun x st => match g x ρ st with
  | some (ρ', st') => .nx ρ' st'
  | none => .bad
theorem psx_asg {tg : Expr} {sl : List Nat} {g : DenG} (he : PX X T W e d) (hg : PGX X T sl tg g) (hs : swapsWithSole [tg] e pos.line X.env = pure false := by rfl) (hw : swappedStores [tg] e X.env = pure none := by rfl)
    (h1 : (assignEach [tg] X.env).map (·.2) = [assign tg X.env] := by rfl) : PSX X T W (.Assign [tg] e pos) (dAsgG d g) :=
  ps_imp (ps_asg he hg hs hw h1) fun D σ H ⟨μ, ρ, st, s, e, h⟩ => ⟨μ, ρ, st, s, e, (PostS.bind (R := RV T) h e).mono fun v H1 ⟨μ1, x, st1, s1, x1, r1, h1⟩ => by
    refine ⟨μ1, x, ρ, st1, s1, r1, e.ex x1, ?_⟩
    cases q : g x ρ st1 with
    | none => simp only [q] at h1; exact h1.elim
    | some p =>
      obtain ⟨ρ', st'⟩ := p
      simp only [q] at h1
      exact fun μ2 σ2 H2 s2 x2 e2 _ => h1 μ2 σ2 H2 s2 x2 e2⟩
def dAsg (i : Nat) (d : Den) : DenS := fun ρ st => (d ρ st).toS ρ fun x st => .nx (ρ.set i (some x)) st
theorem asg_of {i : Nat} {D : Ends} {σ : L2.St} {H : Hp} (h : tS T W (dAsg i d) D σ H) : tAsg (tI T W d) (gName i) D σ H := by
  obtain ⟨μ, ρ, st, s, e, h⟩ := h
  exact ⟨μ, ρ, st, s, e, (PostS.bind (R := RV T) h e).mono fun v H1 ⟨μ1, x, st1, s1, x1, r1, h1⟩ => h1 μ1 _ H1 s1 .refl ((e.ex x1).set i r1)⟩
theorem psx_set (i : Nat) {x : Str} {pos' : Pos} (hN : X.N.Nodup) (he : PX X T W e d) (hi : X.N[i]? = some x := by rfl) (hx : Loc X.env.scope x := by first | exact Or.inl rfl | exact Or.inr rfl) (hs : swapsWith e (some (.Name x pos')) pos.line X.env = pure false := by rfl)
    (hf : X.fn x = true ∨ X.env.scope.names.lookup x = some .local := by first | exact .inl rfl | exact .inr rfl) : PSX X T W (.Assign [.Name x pos'] e pos) (dAsg i d) :=
  ps_imp (ps_set hN hi hx he hs hf) fun D σ H h => asg_of h
/-- x += e -/
def dAug (i : Nat) (d : Den) (f : OpD) : DenS := fun ρ st => match ρ[i]? with
  | some (some x) => (d ρ st).toS ρ fun y st => match f x y st with
    | some (z, st) => .nx (ρ.set i (some z)) st
    | none => .bad
  | _ => .bad
theorem psx_aug (i : Nat) {x : Str} {op : Operator} {f : OpD} {pos' : Pos} (hN : X.N.Nodup) (he : PX X T W e d) (ho : PIp X op (rD T f)) (hi : X.N[i]? = some x := by rfl) (hx : Loc X.env.scope x := by first | exact Or.inl rfl | exact Or.inr rfl)
    (hf : X.fn x = true ∨ X.env.scope.names.lookup x = some .local := by first | exact .inl rfl | exact .inr rfl) : PSX X T W (.AugAssign (.Name x pos') op e pos) (dAug i d f) :=
  ps_imp (ps_aug hN hi hx he ho hf) fun D σ H ⟨μ, ρ, st, s, e, h⟩ => by
    unfold dAug at h
    cases q : ρ[i]? with
    | none => simp only [q] at h; exact h.elim
    | some o =>
      cases o with
      | none => simp only [q] at h; exact h.elim
      | some x =>
        simp only [q] at h
        obtain ⟨v, e1, r⟩ := e.val i x q
        refine ⟨v, e1, μ, ρ, st, s, e, (PostS.bind (R := RV T) h e).mono fun w H1 ⟨μ1, y, st1, s1, x1, r1, h1⟩ => ?_⟩
        refine ⟨μ1, x, y, st1, s1, r.ex x1, r1, ?_⟩
        cases q2 : f x y st1 with
        | none => simp only [q2] at h1; exact h1.elim
        | some p =>
          obtain ⟨z, st2⟩ := p
          simp only [q2] at h1
          exact fun μ2 zv H2 s2 x2 r2 => h1 μ2 _ H2 s2 x2 (((e.ex x1).ex x2).set i r2)

/-! ### while -/
def dWhile : Nat → DenT → DenS → DenS
  | 0, _, _ => fun _ _ => .bad
  | n + 1, c, b => fun ρ st => (c ρ st).toS ρ fun k st1 => if k = true then (match b ρ st1 with
      | .nx ρ2 st2 => dWhile n c b ρ2 st2
      | .ct ρ2 st2 => dWhile n c b ρ2 st2
      | .bk ρ2 st2 => .nx ρ2 st2
      | .rt d st2 => .rt d st2
      | .exc c fs ρ2 st2 => .exc c fs ρ2 st2
      | .bad => .bad) else .nx ρ st1
theorem psx_while (n : Nat) {c : Expr} {body : List Stmt} {t : DenT} (hp : PassesOwn (model X.prog X.w) X.A X.env X.xe) (hc : PTX X T W c t) (hb : PSsX X T W body a) : PSX X T W (.While c body [] pos) (dWhile n t a) :=
  ps_imp (ps_while hp hc hb) fun D σ H ⟨μ, ρ, st, s, e, h⟩ => by
    refine ⟨fun m σ' H' => ∃ μ' ρ' st', SOk T μ' H' st' ∧ EOk T μ' H' ρ' σ' ∧ PostS T W D μ' H' (dWhile m t a ρ' st'), ⟨n, μ, ρ, st, s, e, h⟩, ?_⟩
    rintro m σ1 H1 ⟨μ1, ρ1, st1, s1, e1, h1⟩
    cases m with
    | zero => exact h1.elim
    | succ m =>
      refine ⟨μ1, ρ1, st1, s1, e1, (PostS.bind (R := RB) (f := _) h1 e1).mono fun k H2 ⟨μ2, k', st2, s2, x2, r2, h2⟩ => ?_⟩
      obtain rfl : k' = k := r2
      cases k' with
      | false => exact h2 μ2 σ1 H2 s2 .refl (e1.ex x2)
      | true =>
        refine ⟨fun σ' H' => ∃ μ' ρ' st', SOk T μ' H' st' ∧ EOk T μ' H' ρ' σ' ∧ PostS T W D μ' H' (dWhile m t a ρ' st'), fun σ' H' z => ⟨m, Nat.lt_succ_self m, z⟩, μ2, ρ1, st2, s2, e1.ex x2, ?_⟩
        simp only [if_true] at h2
        cases q : a ρ1 st2 with
        | nx ρ3 st3 => simp only [q] at h2; exact fun μ3 σ3 H3 s3 x3 e3 => ⟨μ3, ρ3, st3, s3, e3, PostS.ex h2 x3⟩
        | ct ρ3 st3 => simp only [q] at h2; exact fun μ3 σ3 H3 s3 x3 e3 => ⟨μ3, ρ3, st3, s3, e3, PostS.ex h2 x3⟩
        | bk ρ3 st3 => simp only [q] at h2; exact h2
        | rt d st3 => simp only [q] at h2; exact h2
        | exc c fs ρ3 st3 => simp only [q] at h2; exact h2
        | bad => simp only [q] at h2; exact h2

/-! ### what is walked -/
abbrev Chk := List (Nat × DObj)
def chkB (c : Chk) (st : DSto) : Bool := c.all fun p => decide (st[p.1]? = some p.2)
def IterOk (T : Tb) (μ0 : List Addr) (H0 : Hp) (p : List D × Chk) (J : It) : Prop :=
  ∀ (i : Nat) (μ : List Addr) (st : DSto) (H : Hp), Ex0 μ0 H0 μ H → SOk T μ H st → chkB p.2 st = true →
    (∀ d, p.1[i]? = some d → J.go i H ∧ ∀ x H', J.yld i H x H' → SOk T μ H' st ∧ Ex μ H μ H' ∧ RV T μ H' d x) ∧ (p.1.length ≤ i → J.stop i H)
abbrev DenI := DEnv → DSto → DRes (List D × Chk)
def tIt (T : Tb) (W : WX) (d : DenI) : TI := fun σ H R => ∃ μ ρ st, SOk T μ H st ∧ EOk T μ H ρ σ ∧ Post T (IterOk T) W σ μ H (d ρ st) R
abbrev PIX (X : Cx) (T : Tb) (W : WX) (tg iter : Expr) (d : DenI) : Prop := PI X tg iter (tIt T W d)
theorem pi_imp {tg iter : Expr} {t t' : TI} (h : PI X tg iter t) (f : ∀ σ H Q, t' σ H Q → t σ H Q) : PI X tg iter t' := ⟨fun pins s σ H Q I q => h.run pins s σ H Q I (f σ H Q q)⟩
def forL (c : Chk) (g : DenG) (b : DenS) : List D → DenS
  | [] => fun ρ st => if chkB c st = true then .nx ρ st else .bad
  | x :: xs => fun ρ st => if chkB c st = true then (match g x ρ st with
      | none => .bad
      | some (ρ1, st1) => match b ρ1 st1 with
        | .nx ρ2 st2 => forL c g b xs ρ2 st2
        | .ct ρ2 st2 => forL c g b xs ρ2 st2
        | .bk ρ2 st2 => .nx ρ2 st2
        | .rt d st2 => .rt d st2
        | .exc c fs ρ2 st2 => .exc c fs ρ2 st2
        | .bad => .bad) else .bad
def dFor (di : DenI) (g : DenG) (b : DenS) : DenS := fun ρ st => (di ρ st).toS ρ fun p st => forL p.2 g b p.1 ρ st
theorem psx_for {tg iter : Expr} {body : List Stmt} {sl : List Nat} {di : DenI} {g : DenG} (hp : PassesOwn (model X.prog X.w) X.A X.env X.xe) (hc : X.calm = true) (hi : PIX X T W tg iter di) (hg : PGX X T sl tg g) (hb : PSsX X T W body a)
    (hs : ∀ x, foldedSetIterable iter X.env x = pure x := by intro _; rfl) : PSX X T W (.For tg iter body [] pos) (dFor di g a) :=
  ps_imp (ps_for hp hc hi hg hb hs) fun D σ H ⟨μ, ρ, st, s, e, h⟩ => ⟨μ, ρ, st, s, e, (PostS.bind (R := IterOk T) h e).mono fun J H1 ⟨μ1, p, st1, s1, x1, r1, h1⟩ => by
    obtain ⟨src, chk⟩ := p
    refine ⟨fun i m σ' H' => m = src.length - i ∧ i ≤ src.length ∧ ∃ μ' ρ' st', SOk T μ' H' st' ∧ Ex μ1 H1 μ' H' ∧ EOk T μ' H' ρ' σ' ∧ PostS T W D μ' H' (forL chk g a (src.drop i) ρ' st'),
      ⟨_, rfl, Nat.zero_le _, μ1, ρ, st1, s1, .refl, e.ex x1, h1⟩, ?_⟩
    rintro i m σ2 H2 ⟨rfl, hi2, μ2, ρ2, st2, s2, x2, e2, h2⟩
    by_cases hlt : i < src.length
    · rw [List.drop_eq_getElem_cons hlt] at h2
      unfold forL at h2
      by_cases hk : chkB chk st2 = true
      · rw [if_pos hk] at h2
        obtain ⟨k1, _⟩ := r1 i μ2 st2 H2 x2.x0 s2 hk
        obtain ⟨go, yld⟩ := k1 src[i] (List.getElem?_eq_getElem hlt)
        refine .inr ⟨go, fun σ' H' => ∃ μ' ρ' st', SOk T μ' H' st' ∧ Ex μ1 H1 μ' H' ∧ EOk T μ' H' ρ' σ' ∧ PostS T W D μ' H' (forL chk g a (src.drop (i + 1)) ρ' st'), fun σ' H' z => ⟨src.length - (i + 1), by omega, rfl, hlt, z⟩, fun x H3 y => ?_⟩
        obtain ⟨s3, x3, r3⟩ := yld x H3 y
        refine ⟨μ2, src[i], ρ2, st2, s3, r3, e2.ex x3, ?_⟩
        cases q : g src[i] ρ2 st2 with
        | none => simp only [q] at h2; exact h2.elim
        | some pp =>
          obtain ⟨ρ4, st4⟩ := pp
          simp only [q] at h2
          intro μ4 σ4 H4 s4 x4 e4 _
          refine ⟨μ4, ρ4, st4, s4, e4, ?_⟩
          have xx : Ex μ2 H2 μ4 H4 := x3.trans x4
          cases q2 : a ρ4 st4 with
          | nx ρ5 st5 => simp only [q2] at h2; exact fun μ5 σ5 H5 s5 x5 e5 => ⟨μ5, ρ5, st5, s5, x2.trans (xx.trans x5), e5, PostS.ex h2 (xx.trans x5)⟩
          | ct ρ5 st5 => simp only [q2] at h2; exact fun μ5 σ5 H5 s5 x5 e5 => ⟨μ5, ρ5, st5, s5, x2.trans (xx.trans x5), e5, PostS.ex h2 (xx.trans x5)⟩
          | bk ρ5 st5 => simp only [q2] at h2; exact PostS.ex h2 xx
          | rt d st5 => simp only [q2] at h2; exact PostS.ex h2 xx
          | exc c fs ρ5 st5 => simp only [q2] at h2; exact PostS.ex h2 xx
          | bad => simp only [q2] at h2; exact h2.elim
      · rw [if_neg hk] at h2; exact h2.elim
    · obtain rfl : i = src.length := by omega
      rw [List.drop_eq_nil_of_le (Nat.le_refl _)] at h2
      unfold forL at h2
      by_cases hk : chkB chk st2 = true
      · rw [if_pos hk] at h2
        exact .inl ⟨(r1 _ μ2 st2 H2 x2.x0 s2 hk).2 (Nat.le_refl _), h2 μ2 σ2 H2 s2 .refl e2⟩
      · rw [if_neg hk] at h2; exact h2.elim⟩
end
end FW

set_option Elab.async false
set_option linter.all false
set_option maxRecDepth 100000
set_option maxHeartbeats 4000000
namespace FW
open PySem PySem.Spec PyProof.Rows L2

/-! ### lists and tuples walked -/
def dISeq (d : Den) : DenI := fun ρ st => (d ρ st).bind fun x st => match x with
  | .tup xs => .ok (xs, []) st
  | .ref n => match st[n]? with
    | some (.lst xs) => .ok (xs, [(n, .lst xs)]) st
    | _ => .bad
  | .scr ns => .ok (ns.map D.int, []) st
  | _ => .bad
section
variable {X : Cx} {T : Tb} {W : WX} {pos : Pos} {tg e : Expr} {d : Den}
def iSeq (K : PySem.W.Frag) (tl : TE) : TI := fun σ H R => tl σ H fun x H1 => ∃ a, x = .ref a ∧ (((∃ xs, SqL K H1 a xs) ∧ R (Itl K a) H1) ∨ ((∃ xs, SqT K H1 a xs) ∧ R (Itt K a) H1))
theorem pi_seq {l : Expr} {tl : TE} (hl : PE X l tl) : PI X tg l (iSeq X.K tl) := by
  refine ⟨fun pins s σ H R I h => ?_⟩
  refine thn (hl.run pins s σ H _ I h) fun v s1 ⟨x, H1, I1, r1, q1⟩ => ?_
  obtain ⟨a, e, q⟩ := q1
  subst e
  cases r1
  rcases q with ⟨⟨xs, hq⟩, q⟩ | ⟨⟨xs, hq⟩, q⟩
  · obtain ⟨its, rv, p, hz⟩ := I1.list hq
    refine wpAny_pyIter_list p.isList ?_
    refine ⟨s1.heap.objs.size, [s1.heap.objs.size], _, _, H1, rfl, I1.kept (t' := s1.toks) fun b o e => Heap.get?_push_of_some _ e, turn_list a _, ⟨_, Heap.get?_push_size _ rfl, rfl, rfl⟩, fun b hb => ?_, q⟩
    have e : b = s1.heap.objs.size := by simpa using hb
    subst e
    exact I1.fpOk (Nat.le_refl _) (I1.hok.fresh (Nat.le_refl _))
  · obtain ⟨its, rv, p, hz⟩ := I1.tuple hq
    refine wpAny_pyIter_tuple (show s1.heap.IsTuple a its.toArray from p) ?_
    refine ⟨s1.heap.objs.size, [s1.heap.objs.size], _, _, H1, rfl, I1.kept (t' := s1.toks) fun b o e => Heap.get?_push_of_some _ e, turn_tuple a _, ⟨_, Heap.get?_push_size _ rfl, rfl, rfl⟩, fun b hb => ?_, q⟩
    have e : b = s1.heap.objs.size := by simpa using hb
    subst e
    exact I1.fpOk (Nat.le_refl _) (I1.hok.fresh (Nat.le_refl _))
end
section
variable {T : Tb} {μ μ0 : List Addr} {H H0 : Hp} {st : DSto} {a : Addr}
theorem chk_one {n : Nat} {o : DObj} (h : chkB [(n, o)] st = true) : st[n]? = some o := by
  unfold chkB at h
  rw [List.all_cons, Bool.and_eq_true] at h
  exact of_decide_eq_true h.1
/-- the walk of a list whose items are known wherever it stands -/
theorem iterOk_lst {xs : List D} {chk : Chk} (f : ∀ (μ : List Addr) (st : DSto) (H : Hp), Ex0 μ0 H0 μ H → SOk T μ H st → chkB chk st = true → ∃ vs, RVs T μ H xs vs ∧ SqL T.K H a vs) : IterOk T μ0 H0 (xs, chk) (Itl T.K a) := by
  intro i μ st H x s k
  obtain ⟨vs, r, u⟩ := f μ st H x s k
  refine ⟨fun d e => ?_, fun hl => ⟨vs, u, by rw [r.len]; exact hl⟩⟩
  obtain ⟨v, e1, r1⟩ := r.get e
  refine ⟨⟨vs, v, u, e1⟩, fun y H' hy => ?_⟩
  obtain ⟨rfl, hy⟩ := hy
  have e2 := hy vs (u)
  rw [e1] at e2; cases e2
  exact ⟨s, .refl, r1⟩
theorem iterOk_tup {xs : List D} {vs : List V} (h : H0 a = some (.tup vs)) (r : RVs T μ0 H0 xs vs) : IterOk T μ0 H0 (xs, []) (Itt T.K a) := by
  intro i μ st H x s k
  have h1 : SqT T.K H a vs := SqT.of (x.tup _ _ h)
  have r1 := r.ex0 x
  refine ⟨fun d e => ?_, fun hl => ⟨vs, h1, by rw [r1.len]; exact hl⟩⟩
  obtain ⟨v, e1, r2⟩ := r1.get e
  refine ⟨⟨vs, v, h1, e1⟩, fun y H' hy => ?_⟩
  obtain ⟨rfl, hy⟩ := hy
  have e2 := hy vs h1
  rw [e1] at e2; cases e2
  exact ⟨s, .refl, r2⟩
end

/-- the address of an object of the store stays -/
theorem Ex.there {n : Nat} {μ μ0 : List Addr} {H H0 : Hp} {a : Addr} (x : Ex μ0 H0 μ H) (h : μ0[n]? = some a) : μ[n]? = some a := x.get h
section
variable {X : Cx} {T : Tb} {W : WX} {pos : Pos} {tg e : Expr} {d : Den}
theorem sqL_of {K : PySem.W.Frag} {μ : List Addr} {H : Hp} {xs : List D} {a : Addr} (h : RO T μ H (.lst xs) a) : ∃ vs, RVs T μ H xs vs ∧ SqL K H a vs := by
  obtain ⟨vs, e1, r⟩ := h
  exact ⟨vs, r, SqL.of e1⟩
theorem sqL_scr {H : Hp} {xs : List V} {a : Addr} (h : (∃ o, H a = some (.frz o (.lst xs))) ∨ SqK T.K a xs) : SqL T.K H a xs := by
  rcases h with ⟨o, e1⟩ | e1
  · exact .inl (.inr ⟨o, e1⟩)
  · exact .inr e1
theorem pix_seq (hF : Fits X T W) (h : PX X T W e d) : PIX X T W tg e (dISeq d) :=
  pi_imp (pi_seq h) fun σ H R ⟨μ, ρ, st, s, e, h⟩ => ⟨μ, ρ, st, s, e, (Post.bind (R := RV T) h).mono fun v H1 ⟨μ1, x, st1, s1, x1, r1, h1⟩ => by
    have hK := hF.K
    cases x with
    | tup xs =>
      simp only [RV] at r1
      obtain ⟨a, vs, rfl, e1, rr⟩ := r1
      exact ⟨a, rfl, .inr ⟨⟨vs, SqT.of e1⟩, h1 μ1 _ H1 s1 .refl (by rw [hK]; exact iterOk_tup e1 rr)⟩⟩
    | ref n =>
      simp only [RV] at r1
      obtain ⟨a, rfl, e1⟩ := r1
      cases q : st1[n]? with
      | none => simp only [q] at h1; exact h1.elim
      | some o =>
        have ro := s1.ro n o a q e1
        cases o with
        | lst xs =>
          simp only [q] at h1
          obtain ⟨vs, rr, sq⟩ := sqL_of (K := X.K) ro
          refine ⟨a, rfl, .inl ⟨⟨vs, sq⟩, h1 μ1 _ H1 s1 .refl ?_⟩⟩
          rw [hK]
          exact iterOk_lst fun μ2 st2 H2 x2 s2 k2 => sqL_of (s2.ro n _ a (chk_one k2) (x2.get e1))
        | ins c fs => simp only [q] at h1; exact h1.elim
        | dct kvs => simp only [q] at h1; exact h1.elim
        | set xs => simp only [q] at h1; exact h1.elim
    | scr ns =>
      simp only [RV] at r1
      obtain ⟨a, rfl, e1⟩ := r1
      refine ⟨a, rfl, .inl ⟨⟨_, by rw [hK]; exact sqL_scr e1⟩, h1 μ1 _ H1 s1 .refl ?_⟩⟩
      rw [hK]
      exact iterOk_lst fun μ2 st2 H2 x2 s2 k2 => ⟨_, rvs_ints ns, sqL_scr (e1.imp (fun ⟨o, z⟩ => ⟨o, x2.frz _ _ _ z⟩) id)⟩
    | _ => exact h1.elim⟩
/-! ### ranges -/
def rngD (lo : Int) : Nat → List D
  | 0 => []
  | n + 1 => .int lo :: rngD (lo + 1) n
theorem rngD_len (n : Nat) : ∀ lo, (rngD lo n).length = n := by
  induction n with
  | zero => intro lo; rfl
  | succ n ih => intro lo; simp [rngD, ih]
theorem rngD_get : ∀ (n : Nat) (lo : Int) (i : Nat), i < n → (rngD lo n)[i]? = some (.int (lo + i))
  | 0, _, _, h => by omega
  | n + 1, lo, 0, _ => by simp [rngD]
  | n + 1, lo, i + 1, h => by
    show (rngD (lo + 1) n)[i]? = _
    rw [rngD_get n (lo + 1) i (by omega)]
    congr 2
    omega
theorem iterOk_rng {μ0 : List Addr} {H0 : Hp} (lo : Int) (n : Nat) : IterOk T μ0 H0 (rngD lo n, []) (Itr lo n) := by
  intro i μ st H x s k
  refine ⟨fun d e => ?_, fun hl => by rw [rngD_len] at hl; exact hl⟩
  have hi := (List.getElem?_eq_some_iff.mp e).1
  dsimp only at hi
  rw [rngD_len] at hi
  refine ⟨hi, fun y H' ⟨e1, e2⟩ => ?_⟩
  subst e1
  rw [rngD_get n lo i hi] at e
  cases e
  exact ⟨s, .refl, by simp [RV, e2]⟩
def dIRng1 (d : Den) : DenI := fun ρ st => (d ρ st).bind fun x st => match x with
  | .int j => if -(2 ^ 62) ≤ j ∧ j < 2 ^ 62 then .ok (rngD 0 j.toNat, []) st else .bad
  | _ => .bad
def dIRng2 (a b : Den) : DenI := fun ρ st => (a ρ st).bind fun x st => (b ρ st).bind fun y st => match x, y with
  | .int i, .int j => if -(2 ^ 62) ≤ i ∧ i < 2 ^ 62 ∧ -(2 ^ 62) ≤ j ∧ j < 2 ^ 62 then .ok (rngD i (j - i).toNat, []) st else .bad
  | _, _ => .bad
theorem pix_rng1 {a : Expr} {p : Pos} (hg : Gl X "range") (hm : X.mg "range" = none) (ha : PX X T W a d) (hs : starEach [a] X.env = [(false, eval a X.env)] := by rfl) : PIX X T W tg (.Call (.Name "range" p) [a] [] pos) (dIRng1 d) :=
  pi_imp (pi_range1 hg hm (pa_cons ha pa_nil hs) hs) fun σ H R ⟨μ, ρ, st, s, e, h⟩ => ⟨μ, ρ, st, s, e, (Post.bind (R := RV T) h).mono fun v H1 ⟨μ1, x, st1, s1, x1, r1, h1⟩ => by
    cases x with
    | int j =>
      simp only [RV] at r1
      subst r1
      dsimp only at h1
      by_cases hz : -(2 ^ 62) ≤ j ∧ j < 2 ^ 62
      · rw [if_pos hz] at h1
        exact ⟨j, rfl, hz.1, hz.2, h1 μ1 _ H1 s1 .refl (iterOk_rng 0 j.toNat)⟩
      · rw [if_neg hz] at h1; exact h1.elim
    | _ => exact h1.elim⟩
theorem pix_rng2 {a b : Expr} {da db : Den} {p : Pos} (hg : Gl X "range") (hm : X.mg "range" = none) (ha : PX X T W a da) (hb : PX X T W b db) (hs : starEach [a, b] X.env = [(false, eval a X.env), (false, eval b X.env)] := by rfl) (hs2 : starEach [b] X.env = [(false, eval b X.env)] := by rfl) :
    PIX X T W tg (.Call (.Name "range" p) [a, b] [] pos) (dIRng2 da db) :=
  pi_imp (pi_range2 hg hm (pa_cons ha (pa_cons hb pa_nil hs2) (by rw [hs, hs2])) hs hs2) fun σ H R ⟨μ, ρ, st, s, e, h⟩ => ⟨μ, ρ, st, s, e, (Post.bind (R := RV T) h).mono fun v H1 ⟨μ1, x, st1, s1, x1, r1, h1⟩ => by
    refine ⟨μ1, ρ, st1, s1, e.ex x1, (Post.bind (R := RV T) h1).mono fun u H2 ⟨μ2, y, st2, s2, x2, r2, h2⟩ => ?_⟩
    have r1 := r1.ex x2
    cases x with
    | int i =>
      cases y with
      | int j =>
        simp only [RV] at r1 r2
        subst r1 r2
        dsimp only at h2
        by_cases hz : -(2 ^ 62) ≤ i ∧ i < 2 ^ 62 ∧ -(2 ^ 62) ≤ j ∧ j < 2 ^ 62
        · rw [if_pos hz] at h2
          exact ⟨i, j, rfl, hz, h2 μ2 _ H2 s2 .refl (iterOk_rng i (j - i).toNat)⟩
        · rw [if_neg hz] at h2; exact h2.elim
      | _ => exact h2.elim
    | _ => exact h2.elim⟩
end

/-! ### list comprehensions -/
def wipeE (ρ : DEnv) : List Nat → DEnv
  | [] => ρ
  | v :: vs => (wipeE ρ vs).set v none
def compL (c : Chk) (vs : List Nat) (g : DenG) (step : DEnv → List D → DSto → Option (List D × DSto)) (ρ : DEnv) : List D → List D → DSto → Option (List D × DSto)
  | [], acc, st => if chkB c st = true then some (acc, st) else none
  | x :: xs, acc, st => if chkB c st = true then (match g x (wipeE ρ vs) st with
      | none => none
      | some (ρ1, st1) => match step ρ1 acc st1 with
        | none => none
        | some (acc2, st2) => compL c vs g step ρ xs acc2 st2) else none
def stepE (t : DenT) (e : Den) (ρ : DEnv) (acc : List D) (st : DSto) : Option (List D × DSto) := match t ρ st with
  | .ok true st2 => match e ρ st2 with
    | .ok y st3 => if acc.length < sizeLine then some (acc ++ [y], st3) else none
    | _ => none
  | .ok false st2 => some (acc, st2)
  | _ => none
def stepC (t : DenT) (di : DenI) (vs : List Nat) (g : DenG) (step : DEnv → List D → DSto → Option (List D × DSto)) (ρ : DEnv) (acc : List D) (st : DSto) : Option (List D × DSto) := match t ρ st with
  | .ok true st2 => match di ρ st2 with
    | .ok (src, chk) st3 => compL chk vs g step ρ src acc st3
    | _ => none
  | .ok false st2 => some (acc, st2)
  | _ => none
def dLc (di : DenI) (vs : List Nat) (g : DenG) (step : DEnv → List D → DSto → Option (List D × DSto)) : Den := fun ρ st => (di ρ st).bind fun p st1 => match compL p.2 vs g step ρ p.1 [] st1 with
  | some (acc, st2) => .ok (.ref st2.length) (st2 ++ [.lst acc])
  | none => .bad
def dYes : DenT := fun _ st => .ok true st
abbrev WN : WX := fun _ _ _ _ => False
section
variable {T : Tb} {μ μ' : List Addr} {H : Hp} {st : DSto} {a : Addr} {vs ws : List V} {ρ : DEnv} {σ : L2.St}
theorem wipeE_len (ρ : DEnv) : ∀ vs, (wipeE ρ vs).length = ρ.length
  | [] => rfl
  | v :: vs => by unfold wipeE; rw [List.length_set, wipeE_len ρ vs]
theorem wipeE_some {i : Nat} {x : D} : ∀ {vs : List Nat}, (wipeE ρ vs)[i]? = some (some x) → ρ[i]? = some (some x) ∧ i ∉ vs
  | [], h => ⟨h, by simp⟩
  | v :: vs, h => by
    unfold wipeE at h
    by_cases hi : v = i
    · subst hi
      by_cases hv : v < (wipeE ρ vs).length
      · rw [List.getElem?_set_self hv] at h; cases h
      · rw [List.getElem?_eq_none (by simpa using hv)] at h; cases h
    · rw [List.getElem?_set_ne hi] at h
      obtain ⟨h1, h2⟩ := wipeE_some h
      exact ⟨h1, by simp only [List.mem_cons, not_or]; exact ⟨fun e => hi e.symm, h2⟩⟩
theorem wipe_get (σ : L2.St) (i : Nat) : ∀ vs : List Nat, (wipe σ vs)[i]? = if i ∈ vs then σ[i]?.map (fun _ => none) else σ[i]?
  | [] => by simp [wipe]
  | v :: vs => by
    unfold wipe
    by_cases hi : v = i
    · subst hi
      simp only [List.mem_cons, true_or, if_true]
      by_cases hv : v < σ.length
      · rw [List.getElem?_set_self (by rw [wipe_length]; exact hv), List.getElem?_eq_getElem hv]; rfl
      · rw [List.getElem?_eq_none (by simp [wipe_length]; omega), List.getElem?_eq_none (by omega)]; rfl
    · rw [List.getElem?_set_ne hi, wipe_get σ i vs]
      simp [Ne.symm hi]
theorem EOk.wipe (e : EOk T μ H ρ σ) (vs : List Nat) : EOk T μ H (wipeE ρ vs) (L2.wipe σ vs) := by
  refine ⟨by rw [wipeE_len, wipe_length]; exact e.len, fun i d h => ?_⟩
  obtain ⟨h1, h2⟩ := wipeE_some h
  obtain ⟨v, e1, r⟩ := e.val i d h1
  exact ⟨v, by rw [wipe_get, if_neg h2]; exact e1, r⟩
theorem wipe_same {σ σ2 : L2.St} {vs sl : List Nat} (hl : σ2.length = σ.length) (h : ∀ j, j ∉ sl → σ2[j]? = (L2.wipe σ vs)[j]?) (hs : ∀ j ∈ sl, j ∈ vs) : L2.wipe σ2 vs = L2.wipe σ vs := by
  apply List.ext_getElem?
  intro i
  rw [wipe_get, wipe_get]
  by_cases hi : i ∈ vs
  · rw [if_pos hi, if_pos hi]
    by_cases hv : i < σ.length
    · rw [List.getElem?_eq_getElem (by omega : i < σ2.length), List.getElem?_eq_getElem hv]; rfl
    · rw [List.getElem?_eq_none (by omega : σ2.length ≤ i), List.getElem?_eq_none (by omega)]
  · rw [if_neg hi, if_neg hi, h i fun z => hi (hs i z), wipe_get, if_neg hi]
/-- a list beside the store grows -/
theorem side_ex0 (hD : H a = some (.lst vs)) : Ex0 μ H μ (upd H a (.lst ws)) := by
  refine ⟨⟨[], by simp⟩, fun b xs h => ?_, fun b o xs h => ?_⟩
  · rw [upd_ne]; exact h
    rintro rfl; rw [hD] at h; cases h
  · rw [upd_ne]; exact h
    rintro rfl; rw [hD] at h; cases h
theorem side_sok (s : SOk T μ H st) (hD : H a = some (.lst vs)) (hn : a ∉ μ) : SOk T μ (upd H a (.lst ws)) st := by
  refine ⟨s.len, fun i o b e1 e2 => (s.ro i o b e1 e2).mono0 (side_ex0 hD) fun u h => ?_, s.inj⟩
  rw [upd_ne]; exact h
  rintro rfl; exact hn (List.mem_of_getElem? e2)
theorem side_ex {H0 : Hp} {μ0 : List Addr} (x : Ex μ0 H0 μ H) (h0 : H0 a = none) (hD : H a = some (.lst vs)) : Ex μ0 H0 μ (upd H a (.lst ws)) := by
  refine ⟨x.x0.trans (side_ex0 hD), fun b o h hb => ?_, x.nw⟩
  rw [upd_ne]
  · exact x.fr b o h hb
  · intro e
    rw [e, h0] at h
    cases h
theorem side_in {H1 : Hp} (x : Ex μ H μ' H1) (hD : H a = some (.lst vs)) (hn : a ∉ μ) : H1 a = some (.lst vs) ∧ a ∉ μ' := by
  refine ⟨x.fr a _ hD hn, fun z => ?_⟩
  have q := x.nw a z hn
  rw [hD] at q
  cases q
/-- the grown list enters the store -/
theorem adopt_ok {xs : List D} (s : SOk T μ H st) (hD : H a = some (.lst vs)) (hn : a ∉ μ) (r : RVs T μ H xs vs) : SOk T (μ ++ [a]) H (st ++ [.lst xs]) :=
  have x : Ex0 μ H (μ ++ [a]) H := ⟨⟨_, rfl⟩, fun _ _ h => h, fun _ _ _ h => h⟩
  sok_snoc s x (fun _ _ _ h => h) hn ⟨vs, hD, r.ex0 x⟩
theorem adopt_ex {H0 : Hp} {μ0 : List Addr} (x : Ex μ0 H0 μ H) (h0 : H0 a = none) : Ex μ0 H0 (μ ++ [a]) H := by
  refine ⟨x.x0.trans ⟨⟨_, rfl⟩, fun _ _ h => h, fun _ _ _ h => h⟩, x.fr, fun b hb hn => ?_⟩
  rcases List.mem_append.mp hb with z | z
  · exact x.nw b z hn
  · rw [List.mem_singleton.mp z]; exact h0
end
/-- what a comprehension's list and store look like between two turns -/
structure CompIn (T : Tb) (μ0 : List Addr) (H0 : Hp) (dd : Addr) (acc : List D) (st : DSto) (H : Hp) : Prop where
  all : ∃ μ vs, SOk T μ H st ∧ Ex μ0 H0 μ H ∧ H dd = some (.lst vs) ∧ dd ∉ μ ∧ RVs T μ H acc vs
section
variable {X : Cx} {T : Tb} {W : WX} {pos : Pos}
abbrev BlkAll (X : Cx) (scope : Scope) (p : Cx → Prop) : Prop := ∀ (s : Shared) (H : Hp) (C : Addr) (cl : List (Str × Addr)) (fp : List Addr), p (X.blk s H scope (compEnvC scope cl C X.env) fp)
/-- the reading's turn of the innermost element -/
theorem step_elt2 {t : DenT} {e : Den} {ρ : DEnv} {σ : L2.St} {dd : Addr} {acc : List D} {μ0 μ μ6 : List Addr} {H0 H H6 : Hp} {st : DSto} {vs : List V} {r : List D × DSto} {Nx : Hp → Prop}
    (h0 : H0 dd = none) (x0 : Ex μ0 H0 μ H) (x6 : Ex0 μ6 H6 μ H) (hD : H dd = some (.lst vs)) (hn : dd ∉ μ) (ra : RVs T μ H acc vs) (s : SOk T μ H st) (eo : EOk T μ H ρ σ) (h : stepE t e ρ acc st = some r) (hNx : ∀ H', (∃ μ' vs', SOk T μ' H' r.2 ∧ Ex0 μ6 H6 μ' H' ∧ Ex μ0 H0 μ' H' ∧ H' dd = some (.lst vs') ∧ dd ∉ μ' ∧ RVs T μ' H' r.1 vs') → Nx H') :
    tT T WN t σ H fun b H3 => if b = true then tI T WN e σ H3 fun y H4 => ∃ acc, H4 dd = some (.lst acc) ∧ acc.length < sizeLine ∧ Nx (upd H4 dd (.lst (acc ++ [y]))) else Nx H3 := by
  refine ⟨μ, ρ, st, s, eo, ?_⟩
  unfold stepE at h
  cases q : t ρ st with
  | exc c fs st2 => rw [q] at h; cases h
  | bad => rw [q] at h; cases h
  | ok b st2 =>
    rw [q] at h
    intro μ1 b' H1 s1 x1 rb
    obtain rfl : b = b' := rb
    obtain ⟨hD1, hn1⟩ := side_in x1 hD hn
    cases b with
    | false =>
      cases h
      exact hNx H1 ⟨μ1, vs, s1, x6.trans x1.x0, x0.trans x1, hD1, hn1, ra.ex x1⟩
    | true =>
      refine ⟨μ1, ρ, st2, s1, eo.ex x1, ?_⟩
      dsimp only at h
      cases q2 : e ρ st2 with
      | exc c fs st3 => rw [q2] at h; cases h
      | bad => rw [q2] at h; cases h
      | ok y st3 =>
        rw [q2] at h
        dsimp only at h
        by_cases hz : acc.length < sizeLine
        · rw [if_pos hz] at h
          cases h
          intro μ2 v H2 s2 x2 r2
          obtain ⟨hD2, hn2⟩ := side_in x2 hD1 hn1
          have ra2 := (ra.ex x1).ex x2
          refine ⟨vs, hD2, by rw [ra2.len]; exact hz, hNx _ ⟨μ2, vs ++ [v], side_sok s2 hD2 hn2, (x6.trans (x1.trans x2).x0).trans (side_ex0 hD2), side_ex (x0.trans (x1.trans x2)) h0 hD2, upd_same, hn2, ?_⟩⟩
          exact (ra2.app (RVs.one r2)).ex0 (side_ex0 hD2)
        · rw [if_neg hz] at h; cases h
theorem step_elt {t : DenT} {e : Den} {ρ : DEnv} {σ : L2.St} {dd : Addr} {acc : List D} {μ0 μ : List Addr} {H0 H : Hp} {st : DSto} {vs : List V} {r : List D × DSto} {Nx : Hp → Prop}
    (h0 : H0 dd = none) (x0 : Ex μ0 H0 μ H) (hD : H dd = some (.lst vs)) (hn : dd ∉ μ) (ra : RVs T μ H acc vs) (s : SOk T μ H st) (eo : EOk T μ H ρ σ) (h : stepE t e ρ acc st = some r) (hNx : ∀ H', CompIn T μ0 H0 dd r.1 r.2 H' → Nx H') :
    tT T WN t σ H fun b H3 => if b = true then tI T WN e σ H3 fun y H4 => ∃ acc, H4 dd = some (.lst acc) ∧ acc.length < sizeLine ∧ Nx (upd H4 dd (.lst (acc ++ [y]))) else Nx H3 :=
  step_elt2 h0 x0 x0.x0 hD hn ra s eo h fun H' ⟨μ', vs', a1, _, a2, a3, a4, a5⟩ => hNx H' ⟨μ', vs', a1, a2, a3, a4, a5⟩
/-- the end: the list is the store's -/
theorem comp_end {μ0 : List Addr} {H0 H : Hp} {dd : Addr} {acc : List D} {st : DSto} {σ : L2.St} {Q : VK} (h0 : H0 dd = none) (c : CompIn T μ0 H0 dd acc st H) (h : Post T (RV T) W σ μ0 H0 (.ok (.ref st.length) (st ++ [.lst acc])) Q) : Q (.ref dd) H := by
  obtain ⟨μ, vs, s, x, hD, hn, r⟩ := c.all
  refine h (μ ++ [dd]) _ H (adopt_ok s hD hn r) (adopt_ex x h0) ?_
  simp only [RV]
  exact ⟨dd, rfl, by rw [← s.len]; simp⟩
theorem ptsx_nil : PTs X [] (tT T W dYes) := ⟨fun pins s σ H Q I ⟨μ, ρ, st, so, e, h⟩ => pts_nil.run pins s σ H Q I (h μ true H so .refl rfl)⟩
theorem ptsx_one {c : Expr} {t : DenT} (h : PTX X T W c t) : PTs X [c] (tT T W t) := pts_one h
/-- the reading of a comprehension with one clause -/
theorem tLc_of {di : DenI} {vs sl : List Nat} {g : DenG} {t : DenT} {e : Den} (hs : ∀ j ∈ sl, j ∈ vs) {σ : L2.St} {H : Hp} {Q : VK} (h : tI T W (dLc di vs g (stepE t e)) σ H Q) :
    tLc (tIt T W di) (tG T sl g) (tT T WN t) (tI T WN e) vs σ H Q := by
  obtain ⟨μ, ρ, st, s, eo, h⟩ := h
  refine ⟨μ, ρ, st, s, eo, (Post.bind (R := IterOk T) h).mono fun J H1 ⟨μ1, p, st1, s1, x1, r1, h1⟩ dd hD => ?_⟩
  obtain ⟨src, chk⟩ := p
  dsimp only at h1
  cases q : compL chk vs g (stepE t e) ρ src [] st1 with
  | none => rw [q] at h1; exact h1.elim
  | some r =>
    obtain ⟨accF, stF⟩ := r
    rw [q] at h1
    have e1 := eo.ex x1
    refine ⟨fun i m H' => m = src.length - i ∧ i ≤ src.length ∧ ∃ acc st', CompIn T μ1 H1 dd acc st' H' ∧ compL chk vs g (stepE t e) ρ (src.drop i) acc st' = some (accF, stF),
      ⟨_, rfl, Nat.zero_le _, [], st1, ⟨μ1, [], sok_new s1 hD, ex_new hD, upd_same, s1.fresh hD, by simp [RVs]⟩, q⟩, ?_⟩
    · rintro i m H2 ⟨rfl, hi2, acc, st2, C, hc⟩
      obtain ⟨μ2, ws, s2, x2, hD2, hn2, ra⟩ := C.all
      by_cases hlt : i < src.length
      · rw [List.drop_eq_getElem_cons hlt] at hc
        unfold compL at hc
        by_cases hk : chkB chk st2 = true
        · rw [if_pos hk] at hc
          obtain ⟨k1, _⟩ := r1 i μ2 st2 H2 x2.x0 s2 hk
          obtain ⟨go, yld⟩ := k1 src[i] (List.getElem?_eq_getElem hlt)
          refine .inr ⟨go, fun H' => ∃ acc st', CompIn T μ1 H1 dd acc st' H' ∧ compL chk vs g (stepE t e) ρ (src.drop (i + 1)) acc st' = some (accF, stF), fun H' z => ⟨src.length - (i + 1), by omega, rfl, hlt, z⟩, fun x H3 y => ?_⟩
          obtain ⟨s3, x3, r3⟩ := yld x H3 y
          have e3 : EOk T μ2 H3 (wipeE ρ vs) (L2.wipe σ vs) := ((e1.ex x2).ex x3).wipe vs
          refine ⟨μ2, src[i], wipeE ρ vs, st2, s3, r3, e3, ?_⟩
          cases qg : g src[i] (wipeE ρ vs) st2 with
          | none => rw [qg] at hc; cases hc
          | some pp =>
            obtain ⟨ρ4, st4⟩ := pp
            rw [qg] at hc
            dsimp only at hc
            cases qs : stepE t e ρ4 acc st4 with
            | none => rw [qs] at hc; cases hc
            | some rr =>
              rw [qs] at hc
              intro μ4 σ4 H4 s4 x4 e4 k4
              refine ⟨wipe_same (by rw [k4.1, wipe_length]) k4.2 hs, ?_⟩
              have xx := x3.trans x4
              obtain ⟨hD4, hn4⟩ := side_in xx hD2 hn2
              exact step_elt hD (x2.trans xx) hD4 hn4 (ra.ex xx) s4 e4 qs fun H' z => ⟨rr.1, rr.2, z, hc⟩
        · rw [if_neg hk] at hc; cases hc
      · obtain rfl : i = src.length := by omega
        rw [List.drop_eq_nil_of_le (Nat.le_refl _)] at hc
        unfold compL at hc
        by_cases hk : chkB chk st2 = true
        · rw [if_pos hk] at hc
          have stp := (r1 _ μ2 st2 H2 x2.x0 s2 hk).2 (Nat.le_refl _)
          cases hc
          exact .inl ⟨stp, comp_end hD C h1⟩
        · rw [if_neg hk] at hc; cases hc
theorem px_lc {elt tg iter : Expr} {ifs : List Expr} {scope : Scope} {own : List (Str × Nat)} {sl : List Nat} {di : DenI} {g : DenG} {t : DenT} {e : Den} (hc : X.calm = true) (hN : X.N.Nodup) (hi : PIX X T W tg iter di) (ok : BlkOk X.N X.env.scope scope own) (hsl : ∀ j ∈ sl, j ∈ own.map (·.2))
    (hg : BlkAll X scope fun Y => PGX Y T sl tg g) (ht : BlkAll X scope fun Y => PTs Y ifs (tT T WN t)) (he : BlkAll X scope fun Y => PX Y T WN elt e) (hs : ∀ x, foldedSetIterable iter X.env x = pure x := by intro _; rfl) :
    PX X T W (.ListComp elt [⟨tg, iter, ifs, 0⟩] scope pos) (dLc di (own.map (·.2)) g (stepE t e)) :=
  pe_imp (pe_lc hc hN hi ok hg ht he hs) fun σ H Q h => tLc_of hsl h
theorem psx_setLc (i : Nat) {y : Str} {py spos : Pos} {elt tg iter : Expr} {ifs : List Expr} {scope : Scope} {own : List (Str × Nat)} {sl : List Nat} {di : DenI} {g : DenG} {t : DenT} {e : Den} (hc : X.calm = true) (hN : X.N.Nodup) (hi : PIX X T W tg iter di) (ok : BlkOk X.N X.env.scope scope own) (hsl : ∀ j ∈ sl, j ∈ own.map (·.2))
    (hg : BlkAll X scope fun Y => PGX Y T sl tg g) (ht : BlkAll X scope fun Y => PTs Y ifs (tT T WN t)) (he : BlkAll X scope fun Y => PX Y T WN elt e) (hy : X.N[i]? = some y := by rfl) (hyl : X.env.scope.names.lookup y = some .local := by rfl)
    (hsw : swapsWith (.ListComp elt [⟨tg, iter, ifs, 0⟩] scope pos) (some (.Name y py)) spos.line X.env = pure true := by exact sw_true rfl rfl rfl (by decide +kernel)) (hs : ∀ x, foldedSetIterable iter X.env x = pure x := by intro _; rfl) :
    PSX X T W (.Assign [.Name y py] (.ListComp elt [⟨tg, iter, ifs, 0⟩] scope pos) spos) (dAsg i (dLc di (own.map (·.2)) g (stepE t e))) :=
  ps_imp (ps_setLc hc hN hy hyl hsw hi ok hg ht he hs) fun D σ H h => by
    obtain ⟨μ, ρ, st, s, eo, h⟩ := h
    exact tLc_of hsl ⟨μ, ρ, st, s, eo, (PostS.bind (R := RV T) h eo).mono fun v H1 ⟨μ1, x, st1, s1, x1, r1, h1⟩ => h1 μ1 _ H1 s1 .refl ((eo.ex x1).set i r1)⟩
/-- two clauses -/
theorem tLc2_of {di di1 : DenI} {vs sl vs1 sl1 : List Nat} {g g1 : DenG} {t t1 : DenT} {e : Den} (hs : ∀ j ∈ sl, j ∈ vs) (hs1 : ∀ j ∈ sl1, j ∈ vs1) {σ : L2.St} {H : Hp} {Q : VK} (h : tI T W (dLc di vs g (stepC t di1 vs1 g1 (stepE t1 e))) σ H Q) :
    tLc2 (tIt T W di) (tG T sl g) (tT T WN t) (tIt T WN di1) (tG T sl1 g1) (tT T WN t1) (tI T WN e) vs vs1 σ H Q := by
  obtain ⟨μ, ρ, st, s, eo, h⟩ := h
  refine ⟨μ, ρ, st, s, eo, (Post.bind (R := IterOk T) h).mono fun J H1 ⟨μ1, p, st1, s1, x1, r1, h1⟩ dd hD => ?_⟩
  obtain ⟨src, chk⟩ := p
  dsimp only at h1
  cases q : compL chk vs g (stepC t di1 vs1 g1 (stepE t1 e)) ρ src [] st1 with
  | none => rw [q] at h1; exact h1.elim
  | some r =>
    obtain ⟨accF, stF⟩ := r
    rw [q] at h1
    have e1 := eo.ex x1
    refine ⟨fun i m H' => m = src.length - i ∧ i ≤ src.length ∧ ∃ acc st', CompIn T μ1 H1 dd acc st' H' ∧ compL chk vs g (stepC t di1 vs1 g1 (stepE t1 e)) ρ (src.drop i) acc st' = some (accF, stF),
      ⟨_, rfl, Nat.zero_le _, [], st1, ⟨μ1, [], sok_new s1 hD, ex_new hD, upd_same, s1.fresh hD, by simp [RVs]⟩, q⟩, ?_⟩
    rintro i m H2 ⟨rfl, hi2, acc, st2, C, hc⟩
    obtain ⟨μ2, ws, s2, x2, hD2, hn2, ra⟩ := C.all
    by_cases hlt : i < src.length
    · rw [List.drop_eq_getElem_cons hlt] at hc
      unfold compL at hc
      by_cases hk : chkB chk st2 = true
      · rw [if_pos hk] at hc
        obtain ⟨k1, _⟩ := r1 i μ2 st2 H2 x2.x0 s2 hk
        obtain ⟨go, yld⟩ := k1 src[i] (List.getElem?_eq_getElem hlt)
        refine .inr ⟨go, fun H' => ∃ acc st', CompIn T μ1 H1 dd acc st' H' ∧ compL chk vs g (stepC t di1 vs1 g1 (stepE t1 e)) ρ (src.drop (i + 1)) acc st' = some (accF, stF), fun H' z => ⟨src.length - (i + 1), by omega, rfl, hlt, z⟩, fun x H3 y => ?_⟩
        obtain ⟨s3, x3, r3⟩ := yld x H3 y
        have e3 : EOk T μ2 H3 (wipeE ρ vs) (L2.wipe σ vs) := ((e1.ex x2).ex x3).wipe vs
        refine ⟨μ2, src[i], wipeE ρ vs, st2, s3, r3, e3, ?_⟩
        cases qg : g src[i] (wipeE ρ vs) st2 with
        | none => rw [qg] at hc; cases hc
        | some pp =>
          obtain ⟨ρ4, st4⟩ := pp
          rw [qg] at hc
          dsimp only at hc
          cases qs : stepC t di1 vs1 g1 (stepE t1 e) ρ4 acc st4 with
          | none => rw [qs] at hc; cases hc
          | some rr =>
            rw [qs] at hc
            intro μ4 σ4 H4 s4 x4 e4 k4
            refine ⟨wipe_same (by rw [k4.1, wipe_length]) k4.2 hs, ?_⟩
            have xx := x3.trans x4
            obtain ⟨hD4, hn4⟩ := side_in xx hD2 hn2
            have ra4 := ra.ex xx
            have x40 := x2.trans xx
            refine ⟨μ4, ρ4, st4, s4, e4, ?_⟩
            unfold stepC at qs
            cases qt : t ρ4 st4 with
            | exc c fs st5 => rw [qt] at qs; cases qs
            | bad => rw [qt] at qs; cases qs
            | ok b st5 =>
              rw [qt] at qs
              intro μ5 b' H5 s5 x5 rb
              obtain rfl : b = b' := rb
              obtain ⟨hD5, hn5⟩ := side_in x5 hD4 hn4
              cases b with
              | false =>
                cases qs
                exact ⟨acc, st5, ⟨μ5, ws, s5, x40.trans x5, hD5, hn5, ra4.ex x5⟩, hc⟩
              | true =>
                dsimp only at qs
                refine ⟨μ5, ρ4, st5, s5, e4.ex x5, ?_⟩
                cases qd : di1 ρ4 st5 with
                | exc c fs st6 => rw [qd] at qs; cases qs
                | bad => rw [qd] at qs; cases qs
                | ok p6 st6 =>
                  obtain ⟨src1, chk1⟩ := p6
                  rw [qd] at qs
                  dsimp only at qs
                  intro μ6 J1 H6 s6 x6 r6
                  obtain ⟨hD6, hn6⟩ := side_in x6 hD5 hn5
                  have e6 := (e4.ex x5).ex x6
                  have x60 := (x40.trans x5).trans x6
                  refine ⟨fun j m H' => m = src1.length - j ∧ j ≤ src1.length ∧ ∃ acc' st', (∃ μ' vs', SOk T μ' H' st' ∧ Ex0 μ6 H6 μ' H' ∧ Ex μ1 H1 μ' H' ∧ H' dd = some (.lst vs') ∧ dd ∉ μ' ∧ RVs T μ' H' acc' vs') ∧ compL chk1 vs1 g1 (stepE t1 e) ρ4 (src1.drop j) acc' st' = some rr,
                    ⟨_, rfl, Nat.zero_le _, acc, st6, ⟨μ6, ws, s6, .refl, x60, hD6, hn6, (ra4.ex x5).ex x6⟩, qs⟩, ?_⟩
                  rintro j m H7 ⟨rfl, hj, acc7, st7, ⟨μ7, ws7, s7, x07, x7, hD7, hn7, ra7⟩, hc7⟩
                  have e7 := e6.ex0 x07
                  by_cases hlj : j < src1.length
                  · rw [List.drop_eq_getElem_cons hlj] at hc7
                    unfold compL at hc7
                    by_cases hk7 : chkB chk1 st7 = true
                    · rw [if_pos hk7] at hc7
                      obtain ⟨k7, _⟩ := r6 j μ7 st7 H7 x07 s7 hk7
                      obtain ⟨go7, yld7⟩ := k7 src1[j] (List.getElem?_eq_getElem hlj)
                      refine .inr ⟨go7, fun H' => ∃ acc' st', (∃ μ' vs', SOk T μ' H' st' ∧ Ex0 μ6 H6 μ' H' ∧ Ex μ1 H1 μ' H' ∧ H' dd = some (.lst vs') ∧ dd ∉ μ' ∧ RVs T μ' H' acc' vs') ∧ compL chk1 vs1 g1 (stepE t1 e) ρ4 (src1.drop (j + 1)) acc' st' = some rr, fun H' z => ⟨src1.length - (j + 1), by omega, rfl, hlj, z⟩, fun x8 H8 y8 => ?_⟩
                      obtain ⟨s8, x8', r8⟩ := yld7 x8 H8 y8
                      refine ⟨μ7, src1[j], wipeE ρ4 vs1, st7, s8, r8, (e7.ex x8').wipe vs1, ?_⟩
                      cases qg7 : g1 src1[j] (wipeE ρ4 vs1) st7 with
                      | none => rw [qg7] at hc7; cases hc7
                      | some pp7 =>
                        obtain ⟨ρ9, st9⟩ := pp7
                        rw [qg7] at hc7
                        dsimp only at hc7
                        cases qs7 : stepE t1 e ρ9 acc7 st9 with
                        | none => rw [qs7] at hc7; cases hc7
                        | some rr7 =>
                          rw [qs7] at hc7
                          intro μ9 σ9 H9 s9 x9 e9 k9
                          refine ⟨wipe_same (by rw [k9.1, wipe_length]) k9.2 hs1, ?_⟩
                          have xx9 := x8'.trans x9
                          obtain ⟨hD9, hn9⟩ := side_in xx9 hD7 hn7
                          exact step_elt2 hD (x7.trans xx9) (x07.trans xx9.x0) hD9 hn9 (ra7.ex xx9) s9 e9 qs7 fun H' z => ⟨rr7.1, rr7.2, z, hc7⟩
                    · rw [if_neg hk7] at hc7; cases hc7
                  · obtain rfl : j = src1.length := by omega
                    rw [List.drop_eq_nil_of_le (Nat.le_refl _)] at hc7
                    unfold compL at hc7
                    by_cases hk7 : chkB chk1 st7 = true
                    · rw [if_pos hk7] at hc7
                      have stp7 := (r6 _ μ7 st7 H7 x07 s7 hk7).2 (Nat.le_refl _)
                      cases hc7
                      exact .inl ⟨stp7, acc7, st7, ⟨μ7, ws7, s7, x7, hD7, hn7, ra7⟩, hc⟩
                    · rw [if_neg hk7] at hc7; cases hc7
      · rw [if_neg hk] at hc; cases hc
    · obtain rfl : i = src.length := by omega
      rw [List.drop_eq_nil_of_le (Nat.le_refl _)] at hc
      unfold compL at hc
      by_cases hk : chkB chk st2 = true
      · rw [if_pos hk] at hc
        have stp := (r1 _ μ2 st2 H2 x2.x0 s2 hk).2 (Nat.le_refl _)
        cases hc
        exact .inl ⟨stp, comp_end hD C h1⟩
      · rw [if_neg hk] at hc; cases hc
theorem px_lc2 {elt tg iter tg1 iter1 : Expr} {ifs ifs1 : List Expr} {scope : Scope} {own : List (Str × Nat)} {vs1 sl sl1 : List Nat} {di di1 : DenI} {g g1 : DenG} {t t1 : DenT} {e : Den} (hc : X.calm = true) (hN : X.N.Nodup) (hi : PIX X T W tg iter di) (ok : BlkOk X.N X.env.scope scope own)
    (hv : ∀ i ∈ vs1, i ∈ own.map (·.2)) (hsl : ∀ j ∈ sl, j ∈ own.map (·.2)) (hsl1 : ∀ j ∈ sl1, j ∈ vs1)
    (hg : BlkAll X scope fun Y => PGX Y T sl tg g) (ht : BlkAll X scope fun Y => PTs Y ifs (tT T WN t)) (hi1 : BlkAll X scope fun Y => PIX Y T WN tg1 iter1 di1) (hg1 : BlkAll X scope fun Y => PGX Y T sl1 tg1 g1) (ht1 : BlkAll X scope fun Y => PTs Y ifs1 (tT T WN t1)) (he : BlkAll X scope fun Y => PX Y T WN elt e)
    (hs : ∀ x, foldedSetIterable iter X.env x = pure x := by intro _; rfl) (hs1 : ∀ env x, foldedSetIterable iter1 env x = pure x := by intro _ _; rfl) :
    PX X T W (.ListComp elt [⟨tg, iter, ifs, 0⟩, ⟨tg1, iter1, ifs1, 0⟩] scope pos) (dLc di (own.map (·.2)) g (stepC t di1 vs1 g1 (stepE t1 e))) :=
  pe_imp (pe_lc2 hc hN hi ok hv hg ht hi1 hg1 ht1 he hs hs1) fun σ H Q h => tLc2_of hsl hsl1 h
end
end FW

set_option Elab.async false
set_option linter.all false
set_option maxRecDepth 100000
set_option maxHeartbeats 4000000
namespace FW
open PySem PySem.Spec PyProof.Rows L2

/-! ### what a def promises -/
def PostF (T : Tb) (μ : List Addr) (H : Hp) (r : DRes D) (Q : VK) (E : XK) : Prop := match r with
  | .ok d st => ∀ μ' v H', SOk T μ' H' st → Ex μ H μ' H' → RV T μ' H' d v → Q v H'
  | .exc c fs st => ∀ μ' H' C dd xs, SOk T μ' H' st → Ex μ H μ' H' → T.CT[c]? = some C → H' dd = some (.xd xs) → XdR T μ' H' fs xs → E (.ref C) (some dd) H'
  | .bad => False
def spR (T : Tb) (G : FnD) : Sp := fun vs H Q E => ∃ μ ds st, SOk T μ H st ∧ RVs T μ H ds vs ∧ PostF T μ H (G ds st) Q E
/-- a def's body by its slots; n parameters, N names -/
def bodyF (n N : Nat) (b : DenS) : FnD := fun ds st => if ds.length = n then (match b (ds.map some ++ List.replicate (N - ds.length) none) st with
  | .nx _ st' => .ok .non st'
  | .rt d st' => .ok d st'
  | .exc c fs _ st' => .exc c fs st'
  | _ => .bad) else .bad
/-- .. whose last parameter takes what is left over -/
def bodyStar (n N : Nat) (b : DenS) : FnD := fun ds st => if n ≤ ds.length ∧ ds.length - n ≤ sizeLine then bodyF (n + 1) N b (ds.take n ++ [.tup (ds.drop n)]) st else .bad
abbrev FnX (P : Program) (w : World) (T : Tb) (mg : Str → Option Value) (base : Heap) (k : Nat) (f : Addr) (G : FnD) : Prop := FnR P w T.K mg base (L2.CX P w) k f (spR T G)
section
variable {P : Program} {w : World} {T : Tb} {mg : Str → Option Value} {base : Heap} {k : Nat} {f : Addr} {fd : FuncData} {x qual : Str} {st : Stmt} {N ps : List Str} {b : DenS}
theorem start_ok {μ : List Addr} {H : Hp} {ds : List D} {vs : List V} (N : List Str) (r : RVs T μ H ds vs) : EOk T μ H (ds.map some ++ List.replicate (N.length - ds.length) none) (L2.start N vs) := by
  have hl := r.len
  refine ⟨by simp [L2.start, hl], fun i d h => ?_⟩
  by_cases hi : i < ds.length
  · rw [List.getElem?_append_left (by simpa using hi), List.getElem?_map] at h
    cases q : ds[i]? with
    | none => rw [q] at h; cases h
    | some d' =>
      rw [q] at h
      cases h
      obtain ⟨v, e, rv⟩ := r.get q
      refine ⟨v, ?_, rv⟩
      unfold L2.start
      rw [List.getElem?_append_left (by simp; omega), List.getElem?_map, e]; rfl
  · rw [List.getElem?_append_right (by simp; omega)] at h
    rw [List.getElem?_replicate] at h
    split at h <;> cases h
/-- the wish of a def's body about exceptions -/
abbrev WF (E : XK) : WX := fun cls d _ H => E cls d H
theorem body_post {n : Nat} {E : XK} {Q : VK} {μ : List Addr} {H : Hp} {ds : List D} {st : DSto} (h : PostF T μ H (bodyF n N.length b ds st) Q E) :
    PostS T (WF E) { nx := fun _ H' => Q .non H', rt := Q } μ H (b (ds.map some ++ List.replicate (N.length - ds.length) none) st) := by
  unfold bodyF at h
  by_cases hl : ds.length = n
  · rw [if_pos hl] at h
    cases q : b (ds.map some ++ List.replicate (N.length - ds.length) none) st with
    | nx ρ st' => rw [q] at h; exact fun μ' σ' H' s x e => h μ' .non H' s x (by simp [RV])
    | rt d st' => rw [q] at h; exact fun μ' v H' s x e => h μ' v H' s x e
    | bk ρ st' => rw [q] at h; exact h.elim
    | ct ρ st' => rw [q] at h; exact h.elim
    | exc c fs ρ st' => rw [q] at h; exact fun μ' σ' H' C dd xs s x e => h μ' H' C dd xs s x
    | bad => rw [q] at h; exact h.elim
  · rw [if_neg hl] at h; exact h.elim
abbrev BodyX (P : Program) (w : World) (T : Tb) (mg : Str → Option Value) (base : Heap) (k : Nat) (N : List Str) (qual : Str) (st : Stmt) (f : Addr) (b : DenS) : Prop :=
  ∀ (cdv : Value) (A : Around) (outer : List Env) (s : Shared) (H : Hp) (E : XK), Room k (A.deeper (envOfC qual (defScope st) s.heap.objs.size f cdv)) →
    PSsX (cxOf (L2.CX P w) P w T.K mg base N qual (defScope st) f cdv A outer s H E) T (WF E) (defBody st) b
theorem fnx_body (F : Fun T.K x qual st f fd) (S : FnScope N ps (defScope st)) (hb : Binds T.K fd ps []) (h : BodyX P w T mg base k N qual st f b) : FnX P w T mg base (k + 1) f (bodyF ps.length N.length b) := by
  have F0 : FnOk P w T.K mg base (L2.CX P w) (k + 1) f fd ps (spR T (bodyF ps.length N.length b)) := by
    refine F.okX S (fun vs H Q E hsp => ?_) (fun cdv A outer s H vs Q E hr hsp => ?_)
    · obtain ⟨μ, ds, st', so, r, hp⟩ := hsp
      rw [r.len]
      unfold bodyF at hp
      by_cases hl : ds.length = ps.length
      · exact hl
      · rw [if_neg hl] at hp; exact hp.elim
    · obtain ⟨μ, ds, st', so, r, hp⟩ := hsp
      exact ⟨_, h cdv A outer s H E hr, μ, _, st', so, start_ok N r, body_post hp⟩
  refine (F0.raw hb .nil).imp fun vs H Q E hsp => ?_
  rw [List.append_nil]
  exact hsp
theorem fnx_star {pv : Str} (F : Fun T.K x qual st f fd) (S : FnScope N (ps ++ [pv]) (defScope st))
    (hb : ∀ (kV doc pm : Value) (an : Option Addr) (cdv ct : Value) (us rest : List Value), us.length = ps.length →
      bindArgs (PySem.W.fnOf x qual (defArgs st) (defBody st) (defScope st) .none kV doc pm an cdv ct) ⟨us ++ rest, []⟩ = (newTuple rest >>= fun t => pure (ps.zip us ++ [(pv, t)])))
    (h : BodyX P w T mg base k N qual st f b) : FnX P w T mg base (k + 1) f (bodyStar ps.length N.length b) := by
  obtain ⟨oc, od, kV, doc, pm, an, cdv, ct, osl, rfl, lk, hcd⟩ := F.ex
  refine FnR.imp (StX.fn_star (sp := spR T (bodyF (ps.length + 1) N.length b)) lk hcd S StX.cxUp (hb kV doc pm an cdv ct) fun A outer s H vs Q E hr hsp => ?_) fun vs H Q E hsp => ?_
  · obtain ⟨μ, ds, st', so, r, hp⟩ := hsp
    exact ⟨_, h cdv A outer s H E hr, μ, _, st', so, start_ok N r, body_post hp⟩
  · obtain ⟨μ, ds, st', so, r, hp⟩ := hsp
    unfold bodyStar at hp
    by_cases hl : ps.length ≤ ds.length ∧ ds.length - ps.length ≤ sizeLine
    · rw [if_pos hl] at hp
      have hlen := r.len
      refine ⟨vs.take ps.length, vs.drop ps.length, (List.take_append_drop _ _).symm, by rw [List.length_take]; omega, by rw [List.length_drop]; omega, fun p hp' => ?_⟩
      obtain ⟨a1, a2, a3⟩ := upd_tup_ok so (r.drop ps.length) hp'
      refine ⟨μ, ds.take ps.length ++ [.tup (ds.drop ps.length)], st', a1, ((r.take ps.length).ex a2).app (RVs.one a3), ?_⟩
      revert hp
      generalize bodyF (ps.length + 1) N.length b (ds.take ps.length ++ [.tup (ds.drop ps.length)]) st' = R
      intro hp
      cases R with
      | ok d st2 => exact fun μ' v H' s x rr => hp μ' v H' s (a2.trans x) rr
      | exc c fs st2 => exact fun μ' H' C dd xs s x => hp μ' H' C dd xs s (a2.trans x)
      | bad => exact hp
    · rw [if_neg hl] at hp; exact hp.elim
/-- a weaker promise: equal where it is not bad -/
theorem FnX.mono {j : Nat} {G : FnD} (F : FnX P w T mg base j f G) (h : j ≤ k) : FnX P w T mg base k f G := FnR.mono F h
end

/-! ### calls -/
/-- how an argument list is met by a call -/
def CallsBy (X : Cx) (pos : Pos) (es : List Expr) (t : TA) : Prop :=
  ∀ (pins : List (Addr × Obj)) (s : Shared) (σ : L2.St) (H : Hp) (f : Value) (first : List Value) (Q : Value → Shared → Prop) (R : List V → Hp → Prop), PySem.W.keepIn X.K f = true → Inv X pins σ H s → t σ H R →
    (∀ us vs H1 s1, Inv X pins σ H1 s1 → Vals vs us → R vs H1 → wpAny (model X.prog X.w) X.A (call f (first ++ us)) Q X.xe s1) →
    wpAny (model X.prog X.w) X.A (callWith pos f first (backTo pos (starEach es X.env)) []) Q X.xe s
section
variable {X : Cx} {T : Tb} {W : WX} {pos p apos : Pos} {e o : Expr} {es : List Expr} {d : Den} {t : DenA} {k : Nat} {f C : Addr} {G : FnD}
theorem cb_nil : CallsBy X pos [] (tA T W dNil) := fun pins s σ H f first Q R hk I ⟨μ, ρ, st, so, e, h⟩ k =>
  PySem.W.callWith_K0 I.kIn hk (k [] [] H s I .nil (h μ [] H so .refl (by simp [RVs])))
theorem cb_plain (ha : PAX X T W (e :: es) t) (he : starEach (e :: es) X.env = (false, eval e X.env) :: starEach es X.env := by rfl) (hpl : (backTo pos (starEach es X.env)).any (·.1) = false := by rfl) : CallsBy X pos (e :: es) (tA T W t) :=
  fun pins s σ H f first Q R hk I h k => PySem.W.callWith_K (h₀ := X.base) I.ok.mod.kin hk (thn (ha.run pos pins s σ H _ I h) fun us s1 ⟨vs, H1, I1, r, q⟩ => ⟨I1.kIn, k us vs H1 s1 I1 r q⟩) he hpl
theorem cb_star2 (ha : PAX X T W (e :: es) t) (he : starEach (e :: es) X.env = (false, eval e X.env) :: starEach es X.env := by rfl) (hst : (backTo pos (starEach es X.env)).any (·.1) = true := by rfl) : CallsBy X pos (e :: es) (tA T W t) :=
  fun pins s σ H f first Q R hk I h k => PySem.W.callWith_S2 (h₀ := X.base) I.ok.mod.kin hk (thn (ha.run pos pins s σ H _ I h) fun us s1 ⟨vs, H1, I1, r, q⟩ => ⟨I1.kIn, k us vs H1 s1 I1 r q⟩) he hst
theorem cb_star1 (hF : Fits X T W) (ha : PX X T W e d) (hst : starEach [.Starred e p] X.env = [(true, eval e X.env)] := by rfl) : CallsBy X pos [.Starred e p] (tA T W (dStar d dNil)) :=
  fun pins s σ H f first Q R hk I ⟨μ, ρ, st, so, eo, h⟩ k => by
    refine PySem.W.callWith_S (h₀ := X.base) I.ok.mod.kin hk (thn (ha.run pins s σ H (fun y H1 => ∃ a vs, y = V.ref a ∧ (SqT X.K H1 a vs ∨ SqL X.K H1 a vs) ∧ R vs H1) I ⟨μ, ρ, st, so, eo, (Post.bind (R := RV T) h).mono fun v H1 ⟨μ1, x, st1, s1, x1, r1, h1⟩ => ?_⟩) fun v s1 ⟨y, H1, I1, ry, a, vs, ey, hxs, q⟩ => ?_) hst
    · cases q : itemsD x st1 with
      | none => rw [q] at h1; exact h1.elim
      | some ys =>
        rw [q] at h1
        obtain ⟨a, vs, rfl, rr, sq⟩ := items_of hF.K s1 r1 q
        exact ⟨a, vs, rfl, sq.symm, h1 μ1 vs H1 s1 .refl (by rw [List.append_nil]; exact rr)⟩
    · subst ey
      obtain rfl : v = Value.ref a := ry
      exact StX.star_any I1 hxs fun us s2 I2 rv => ⟨I2.kIn, k us vs H1 s2 I2 rv q⟩
theorem evalArgs_many {M : Model} {A : Around} {E : Value → Shared → Prop} {s : Shared} {f : Value} {x y : Bool × Sem Value} {rest : List (Bool × Sem Value)} {Q : Args → Shared → Prop}
    (h : wpAny M A (spliced (x :: y :: rest)) (fun vs s' => Q ⟨vs, []⟩ s') E s) : wpAny M A (evalArgs f true (x :: y :: rest) []) Q E s := by
  unfold evalArgs
  obtain ⟨b, x⟩ := x
  cases b
  all_goals
    show wpAny M A (spliced _ >>= _) Q E s
    refine wpAny_bind (wpAny_mono h (fun vs s' h' => ?_) fun _ _ x => x)
    refine wpAny_holding ?_
    exact wpAny_bind (wpAny_pure (wpAny_bind (wpAny_pure (wpAny_pure h'))))
theorem cb_stars {e2 : Expr} {es2 : List Expr} (ha : PAX X T W (.Starred e p :: e2 :: es2) t) (h2 : ∃ y r, backTo pos (starEach (.Starred e p :: e2 :: es2) X.env) = (true, do let v ← eval e X.env; standAt pos; pure v) :: y :: r := by exact ⟨_, _, rfl⟩) :
    CallsBy X pos (.Starred e p :: e2 :: es2) (tA T W t) := fun pins s σ H f first Q R hk I h k => by
  obtain ⟨y, r, e⟩ := h2
  have hs := ha.run pos pins s σ H _ I h
  rw [e] at hs ⊢
  exact PySem.W.ks_call rfl (PySem.W.keeps_K hk) (evalArgs_many (thn hs fun us s1 ⟨vs, H1, I1, r, q⟩ => ⟨I1.kIn, k us vs H1 s1 I1 r q⟩))
/-- from the promise of a def to what is wanted in a body -/
theorem spR_of {σ : L2.St} {μ : List Addr} {H : Hp} {ds : List D} {st : DSto} {vs : List V} {Q : VK} (s : SOk T μ H st) (r : RVs T μ H ds vs) (h : Post T (RV T) W σ μ H (G ds st) Q) : spR T G vs H Q (fun cls d H => W cls d σ H) := by
  refine ⟨μ, ds, st, s, r, ?_⟩
  revert h
  generalize G ds st = R
  intro h
  cases R with
  | ok d st' => exact h
  | exc c fs st' => exact h
  | bad => exact h
theorem run_fnX {pins : List (Addr × Obj)} {σ : L2.St} {H : Hp} {s : Shared} {Q : VK} {us : List Value} {vs : List V} (F : FnR X.prog X.w X.K X.mg X.base (L2.CX X.prog X.w) k f (spR T G)) (hr : Room k X.A) (tk : Takes X W)
    (I : Inv X pins σ H s) (r : Vals vs us) (h : spR T G vs H Q (fun cls d H => W cls d σ H)) : wpAny (model X.prog X.w) X.A (call (.ref f) us) (EP X pins σ Q) X.xe s := by
  refine wpAny_call (codeAny_mono (F X.A X.stack s H us vs Q _ hr I.env0 r h) fun r s' hq => ?_)
  cases r with
  | error e => exact tk e s' (XE.of_call I (fun _ _ _ h => h) hq)
  | ok fl =>
    cases fl with
    | ret u => exact I.after hq
    | next => exact False.elim hq
    | brk => exact False.elim hq
    | cont => exact False.elim hq
def dCall (G : FnD) (t : DenA) : Den := fun ρ st => (t ρ st).bind G
theorem px_call {x : Str} (hF : Fits X T W) (F : FnR X.prog X.w X.K X.mg X.base (L2.CX X.prog X.w) k f (spR T G)) (hr : Room k X.A) (hm : X.mg x = some (.ref f)) (hk : PySem.W.keepIn X.K (.ref f) = true) (ha : CallsBy X pos es (tA T W t)) (hg : Gl X x := by rfl)
    (hdb : (x == ("__debug__" : Str)) = false := by decide) : PX X T W (.Call (.Name x p) es [] pos) (dCall G t) := by
  refine ⟨fun pins s σ H Q I ⟨μ, ρ, st, so, eo, h⟩ => ?_⟩
  refine wpAny_Call_Name_kw (ld_glob I hg hm ?_ hdb)
  refine ha pins s σ H (.ref f) [] _ _ hk I ⟨μ, ρ, st, so, eo, Post.bind (R := RVs T) h⟩ fun us vs H1 s1 I1 rv ⟨μ1, ds, st1, s1', x1, r1, h1⟩ => ?_
  exact run_fnX F hr hF.tk I1 rv (spR_of s1' r1 h1)
/-- C(..): a new instance, then __init__ -/
def mkObj (c : Nat) (G : FnD) (ds : List D) (st : DSto) : DRes D := (G (.ref st.length :: ds) (st ++ [.ins c []])).bind fun v st' => match v with
  | .non => .ok (.ref st.length) st'
  | _ => .bad
def dMake (c : Nat) (G : FnD) (t : DenA) : Den := fun ρ st => (t ρ st).bind fun ds st => mkObj c G ds st
theorem made_ok {c : Nat} {μ : List Addr} {H : Hp} {st : DSto} {x dx : Addr} (s : SOk T μ H st) (hC : T.CT[c]? = some C) (cl : Cls T.K C) (nx : H x = none) (nd : H dx = none) (ne : dx ≠ x) :
    SOk T (μ ++ [x]) (upd (upd H dx (.own x)) x (.ins C dx [])) (st ++ [.ins c []]) ∧ Ex μ H (μ ++ [x]) (upd (upd H dx (.own x)) x (.ins C dx [])) := by
  have s1 : SOk T μ (upd H dx (.own x)) st := sok_new s nd
  have n1 : (upd H dx (.own x)) x = none := by rw [upd_ne (Ne.symm ne)]; exact nx
  exact ⟨sok_alloc s1 n1 ⟨C, dx, [], hC, cl, upd_same, .nil⟩, (ex_new nd).trans (ex_alloc n1)⟩
theorem run_makeX {c : Nat} {pins : List (Addr × Obj)} {σ : L2.St} {H : Hp} {s : Shared} {Q : VK} {us : List Value} {vs : List V} {μ : List Addr} {ds : List D} {st : DSto} (hF : Fits X T W) (M : Mk X.K C f) (hC : T.CT[c]? = some C) (cl : Cls T.K C)
    (F : FnR X.prog X.w X.K X.mg X.base (L2.CX X.prog X.w) k f (spR T G)) (hr : Room (k + 1) X.A) (I : Inv X pins σ H s) (r : Vals vs us) (so : SOk T μ H st) (rv : RVs T μ H ds vs) (h : Post T (RV T) W σ μ H (mkObj c G ds st) Q) :
    wpAny (model X.prog X.w) X.A (call (.ref C) us) (EP X pins σ Q) X.xe s := by
  have nx := I.hok.fresh (Nat.le_succ s.heap.objs.size)
  have nd := I.hok.fresh (Nat.le_refl s.heap.objs.size)
  have ne : s.heap.objs.size ≠ s.heap.objs.size + 1 := Nat.ne_of_lt (Nat.lt_succ_self _)
  obtain ⟨so2, x2⟩ := made_ok (c := c) so hC cl nx nd ne
  have I2 := Inv.made (C := C) I
  have r2 : Vals (V.ref (s.heap.objs.size + 1) :: vs) (Value.ref (s.heap.objs.size + 1) :: us) := .cons rfl r
  have rr : RVs T (μ ++ [s.heap.objs.size + 1]) (upd (upd H s.heap.objs.size (.own (s.heap.objs.size + 1))) (s.heap.objs.size + 1) (.ins C s.heap.objs.size [])) (.ref st.length :: ds) (V.ref (s.heap.objs.size + 1) :: vs) := by
    simp only [RVs]
    exact ⟨_, _, rfl, by simp only [RV]; exact ⟨_, rfl, by rw [← so.len]; simp⟩, rv.ex x2⟩
  have hq : spR T G (V.ref (s.heap.objs.size + 1) :: vs) (upd (upd H s.heap.objs.size (.own (s.heap.objs.size + 1))) (s.heap.objs.size + 1) (.ins C s.heap.objs.size [])) (fun v H2 => v = .non ∧ Q (.ref (s.heap.objs.size + 1)) H2) (fun cls d H => W cls d σ H) := by
    refine spR_of so2 rr ?_
    have h2 := Post.bind (R := RV T) (h.ex x2)
    revert h2
    generalize G (.ref st.length :: ds) (st ++ [.ins c []]) = R
    intro h2
    refine h2.mono fun v H3 ⟨μ3, a, st3, s3, x3, r3, h3⟩ => ?_
    cases a with
    | non =>
      simp only [RV] at r3
      refine ⟨r3, h3 μ3 _ H3 s3 .refl ?_⟩
      simp only [RV]
      exact ⟨_, rfl, x3.get (by rw [← so.len]; simp)⟩
    | _ => exact h3.elim
  refine wpAny_call (make_map (f := f) I.kIn M.makes M.init (beq_iff_eq.mp M.fn) (codeAny_mono (F _ X.stack _ _ (Value.ref (s.heap.objs.size + 1) :: us) _ _ _ (hr.make C us []) (I2.env0.make C us []) r2 hq) fun r s' hq' => ?_))
  cases r with
  | error e => exact hF.tk e s' (XE.of_call I2 (fun _ _ _ h => h) hq')
  | ok fl =>
    cases fl with
    | ret u =>
      obtain ⟨v, H', I3, rv, ev, q3⟩ := I2.after hq'
      subst ev
      exact ⟨rv, ⟨V.ref (s.heap.objs.size + 1), H', I3, rfl, q3⟩⟩
    | next => exact False.elim hq'
    | brk => exact False.elim hq'
    | cont => exact False.elim hq'
theorem px_make (c : Nat) {x : Str} (hF : Fits X T W) (M : Mk X.K C f) (hC : T.CT[c]? = some C) (cl : Cls T.K C) (F : FnR X.prog X.w X.K X.mg X.base (L2.CX X.prog X.w) k f (spR T G)) (hr : Room (k + 1) X.A) (hm : X.mg x = some (.ref C)) (ha : CallsBy X pos es (tA T W t)) (hg : Gl X x := by rfl)
    (hdb : (x == ("__debug__" : Str)) = false := by decide) : PX X T W (.Call (.Name x p) es [] pos) (dMake c G t) := by
  refine ⟨fun pins s σ H Q I ⟨μ, ρ, st, so, eo, h⟩ => ?_⟩
  refine wpAny_Call_Name_kw (ld_glob I hg hm ?_ hdb)
  refine ha pins s σ H (.ref C) [] _ _ M.kp I ⟨μ, ρ, st, so, eo, Post.bind (R := RVs T) h⟩ fun us vs H1 s1 I1 rv ⟨μ1, ds, st1, s1', x1, r1, h1⟩ => ?_
  exact run_makeX hF M hC cl F hr I1 rv s1' r1 h1
end
end FW

set_option Elab.async false
set_option linter.all false
set_option maxRecDepth 100000
set_option maxHeartbeats 4000000
namespace FW
open PySem PySem.Spec PyProof.Rows L2

def putN (f : Nat) (v : D) : List (Nat × D) → List (Nat × D)
  | [] => [(f, v)]
  | (g, x) :: r => if g = f then (g, v) :: r else (g, x) :: putN f v r
def getN (f : Nat) : List (Nat × D) → Option D
  | [] => none
  | (g, x) :: r => if g = f then some x else getN f r
section
variable {T : Tb} {μ : List Addr} {H : Hp} {C : Addr} {i : Nat} {name : Str} {d : D} {v : V}
theorem ft_inj {j : Nat} (h1 : T.FT[i]? = some name) (h2 : T.FT[j]? = some name) : i = j := nodup_ix T.nd h1 h2
theorem fs_get : ∀ {fs : List (Nat × D)} {vs : List (Str × V)}, FsR T μ H C fs vs → T.FT[i]? = some name → getN i fs = some d → ∃ v, vs.lookup name = some v ∧ RV T μ H d v ∧ NoAttr T.K C name
  | _, _, .nil, _, e => by cases e
  | (j, x) :: r, (g, y) :: vs, .cons ⟨h1, h2, h3⟩ t, hn, e => by
    unfold getN at e
    by_cases hj : j = i
    · rw [if_pos hj] at e
      cases e
      have : g = name := by
        subst hj
        rw [h1] at hn; exact Option.some.inj hn
      subst this
      exact ⟨y, by simp [List.lookup], h2, h3⟩
    · rw [if_neg hj] at e
      obtain ⟨v, e1, r1⟩ := fs_get t hn e
      have ne : name ≠ g := by rintro rfl; exact hj (ft_inj h1 hn)
      exact ⟨v, by rw [List.lookup_cons, beq_eq_false_iff_ne.mpr ne]; exact e1, r1⟩
theorem fs_none : ∀ {fs : List (Nat × D)} {vs : List (Str × V)}, FsR T μ H C fs vs → name ∉ T.FT → vs.lookup name = none
  | _, _, .nil, _ => rfl
  | (j, x) :: r, (g, y) :: vs, .cons ⟨h1, h2, h3⟩ t, hn => by
    have ne : name ≠ g := by rintro rfl; exact hn (List.mem_of_getElem? h1)
    rw [List.lookup_cons, beq_eq_false_iff_ne.mpr ne]
    exact fs_none t hn
theorem fs_len : ∀ {fs : List (Nat × D)} {vs : List (Str × V)}, FsR T μ H C fs vs → vs.length = fs.length
  | _, _, .nil => rfl
  | _ :: _, _ :: _, .cons _ t => by simp [fs_len t]
theorem fs_put : ∀ {fs : List (Nat × D)} {vs : List (Str × V)}, FsR T μ H C fs vs → T.FT[i]? = some name → NoAttr T.K C name → RV T μ H d v → FsR T μ H C (putN i d fs) (putF name v vs)
  | _, _, .nil, hn, na, r => .cons ⟨hn, r, na⟩ .nil
  | (j, x) :: r, (g, y) :: vs, .cons ⟨h1, h2, h3⟩ t, hn, na, rv => by
    unfold putN putF
    by_cases hj : j = i
    · have : g = name := by
        subst hj
        rw [h1] at hn; exact Option.some.inj hn
      rw [if_pos hj, if_pos this]
      exact .cons ⟨h1, rv, h3⟩ t
    · have ne : g ≠ name := by rintro rfl; exact hj (ft_inj h1 hn)
      rw [if_neg hj, if_neg ne]
      exact .cons ⟨h1, h2, h3⟩ (fs_put t hn na rv)
end
section
variable {X : Cx} {T : Tb} {W : WX} {pos pos' p apos : Pos} {e o : Expr} {es : List Expr} {d : Den} {t : DenA} {k : Nat} {f C : Addr} {G : FnD}
/-- e.f -/
def fldD (i : Nat) (x : D) (st : DSto) : DRes D := match x with
  | .ref n => match st[n]? with
    | some (.ins _ fs) => match getN i fs with
      | some y => .ok y st
      | none => .bad
    | _ => .bad
  | _ => .bad
def dFld (i : Nat) (d : Den) : Den := fun ρ st => (d ρ st).bind (fldD i)
theorem ins_of {μ : List Addr} {H : Hp} {st : DSto} {n c : Nat} {fs : List (Nat × D)} {v : V} (s : SOk T μ H st) (r : RV T μ H (.ref n) v) (q : st[n]? = some (.ins c fs)) :
    ∃ a C dx vs, v = .ref a ∧ μ[n]? = some a ∧ T.CT[c]? = some C ∧ Cls T.K C ∧ H a = some (.ins C dx vs) ∧ FsR T μ H C fs vs := by
  simp only [RV] at r
  obtain ⟨a, rfl, e⟩ := r
  obtain ⟨C, dx, vs, h1, h2, h3, h4⟩ := s.ro n _ a q e
  exact ⟨a, C, dx, vs, rfl, e, h1, h2, h3, h4⟩
theorem px_fld (i : Nat) {name : Str} (hF : Fits X T W) (hn : T.FT[i]? = some name) (h : PX X T W e d) (hb : attributeBase e name X.env (eval e X.env) = eval e X.env := by rfl) : PX X T W (.Attribute e name pos) (dFld i d) :=
  pe_imp (pe_fld h hb) fun σ H Q ⟨μ, ρ, st, s, eo, h⟩ => by
    refine ⟨μ, ρ, st, s, eo, (Post.bind (R := RV T) h).mono fun v H1 ⟨μ1, x, st1, s1, x1, r1, h1⟩ => ?_⟩
    unfold fldD at h1
    cases x with
    | ref n =>
      cases q : st1[n]? with
      | none => simp only [q] at h1; exact h1.elim
      | some ob =>
        cases ob with
        | ins c fs =>
          simp only [q] at h1
          cases q2 : getN i fs with
          | none => simp only [q2] at h1; exact h1.elim
          | some y =>
            simp only [q2] at h1
            obtain ⟨a, C, dx, vs, rfl, e1, h2, h3, h4, h5⟩ := ins_of s1 r1 q
            obtain ⟨w, l, rw', na⟩ := fs_get h5 hn q2
            rw [hF.K]
            exact ⟨a, C, dx, vs, w, rfl, h4, h3, na, l, h1 μ1 w H1 s1 .refl rw'⟩
        | lst xs => simp only [q] at h1; exact h1.elim
        | dct xs => simp only [q] at h1; exact h1.elim
        | set xs => simp only [q] at h1; exact h1.elim
    | _ => exact h1.elim
/-- e.f = v -/
def setFld (c i : Nat) (x y : D) (st : DSto) : Option DSto := match x with
  | .ref n => match st[n]? with
    | some (.ins c' fs) => if c' = c ∧ fs.length < 1000 then some (st.set n (.ins c' (putN i y fs))) else none
    | _ => none
  | _ => none
def dSetF (c i : Nat) (o d : Den) : DenS := fun ρ st => (d ρ st).toS ρ fun y st => (o ρ st).toS ρ fun x st => match setFld c i x y st with
  | some st => .nx ρ st
  | none => .bad
theorem psx_fld (c i : Nat) {name : Str} {od : Den} (hF : Fits X T W) (hn : T.FT[i]? = some name) (hC : T.CT[c]? = some C) (na : NoAttr T.K C name) (ho : PX X T W o od) (hv : PX X T W e d)
    (hs : swapsWith e (some (.Attribute o name pos')) pos.line X.env = pure false := by rfl) : PSX X T W (.Assign [.Attribute o name pos'] e pos) (dSetF c i od d) :=
  ps_imp (ps_fld ho hv hs) fun D σ H ⟨μ, ρ, st, s, eo, h⟩ => by
    refine ⟨μ, ρ, st, s, eo, (PostS.bind (R := RV T) h eo).mono fun v H1 ⟨μ1, y, st1, s1, x1, r1, h1⟩ => ?_⟩
    refine ⟨μ1, ρ, st1, s1, eo.ex x1, (PostS.bind (R := RV T) h1 (eo.ex x1)).mono fun u H2 ⟨μ2, x, st2, s2, x2, r2, h2⟩ => ?_⟩
    unfold setFld at h2
    cases x with
    | ref n =>
      cases q : st2[n]? with
      | none => simp only [q] at h2; exact h2.elim
      | some ob =>
        cases ob with
        | ins c' fs =>
          simp only [q] at h2
          by_cases hz : c' = c ∧ fs.length < 1000
          · rw [if_pos hz] at h2
            obtain ⟨rfl, hl⟩ := hz
            obtain ⟨a, C', dx, vs, rfl, e1, g2, g3, g4, g5⟩ := ins_of s2 r2 q
            rw [hC] at g2; cases g2
            rw [hF.K]
            refine ⟨a, C, dx, vs, rfl, g4, g3, na, by rw [fs_len g5]; exact hl, ?_⟩
            have x3 : Ex μ2 H2 μ2 (upd H2 a (.ins C dx (putF name v vs))) := ex_write s2 (List.mem_of_getElem? e1)
            refine h2 μ2 σ _ (sok_write s2 e1 ⟨C, dx, _, hC, g3, upd_same, ?_⟩) x3 (((eo.ex x1).ex x2).ex x3)
            exact paired_imp (fs_put g5 hn na (r1.ex x2)) fun p q z => ⟨z.1, z.2.1.ex x3, z.2.2⟩
          · rw [if_neg hz] at h2; exact h2.elim
        | lst xs => simp only [q] at h2; exact h2.elim
        | dct xs => simp only [q] at h2; exact h2.elim
        | set xs => simp only [q] at h2; exact h2.elim
    | _ => exact h2.elim
/-- the receiver is an instance of the class c -/
def isIns (c : Nat) (x : D) (st : DSto) : Bool := match x with
  | .ref n => match st[n]? with
    | some (.ins c' _) => decide (c' = c)
    | _ => false
  | _ => false
theorem isIns_of {c n : Nat} {x : D} {st : DSto} (h : isIns c x st = true) : ∃ n fs, x = .ref n ∧ st[n]? = some (.ins c fs) := by
  unfold isIns at h
  cases x with
  | ref n =>
    dsimp only at h
    cases q : st[n]? with
    | none => rw [q] at h; cases h
    | some ob =>
      rw [q] at h
      cases ob with
      | ins c' fs => exact ⟨n, fs, rfl, by rw [q]; cases of_decide_eq_true h; rfl⟩
      | _ => cases h
  | _ => cases h
/-- o.m(..) -/
def dMeth (c : Nat) (G : FnD) (o : Den) (t : DenA) : Den := fun ρ st => (o ρ st).bind fun x st => if isIns c x st = true then (t ρ st).bind fun ds st => G (x :: ds) st else .bad
theorem px_meth (c : Nat) {m : Str} {pl : Sem Bool} {od : Den} (hF : Fits X T W) (hC : T.CT[c]? = some C) (hnf : m ∉ T.FT) (hm : Meth X.K C m f) (F : FnR X.prog X.w X.K X.mg X.base (L2.CX X.prog X.w) k f (spR T G)) (hr : Room k X.A) (ho : PX X T W o od) (ha : CallsBy X pos es (tA T W t))
    (ht : eval (.Call (.Attribute o m apos) es [] pos) X.env = (do
      let ov ← eval o X.env
      standAt apos.atName
      let (f, first) ← holding [ov] (getMethod ov m pl)
      callWith pos f first (backTo pos (starEach es X.env)) (backToKw pos (keywordEach [] X.env))) := by rfl) :
    PX X T W (.Call (.Attribute o m apos) es [] pos) (dMeth c G od t) := by
  refine ⟨fun pins s σ H Q I ⟨μ, ρ, st, so, eo, h⟩ => ?_⟩
  refine PySem.W.methodCall_KW (pl := pl) (thn (ho.run pins s σ H _ I ⟨μ, ρ, st, so, eo, Post.bind (R := RV T) h⟩) fun u s1 ⟨v, H1, I1, rv, μ1, x, st1, s1', x1, r1, h1⟩ => ?_) ht
  by_cases hi : isIns c x st1 = true
  · rw [if_pos hi] at h1
    obtain ⟨n, fs, rfl, q⟩ := isIns_of (n := 0) hi
    obtain ⟨a, C', dx, vs, rfl, e1, g2, g3, g4, g5⟩ := ins_of s1' r1 q
    rw [hC] at g2; cases g2
    obtain rfl : u = Value.ref a := rv
    rw [← hF.K] at g3
    refine getmeth_ok I1 g4 g3 hm (fs_none g5 hnf) ?_
    refine ha pins s1 σ H1 (.ref f) [.ref a] _ _ hm.kp I1 ⟨μ1, ρ, st1, s1', eo.ex x1, Post.bind (R := RVs T) h1⟩ fun us vs2 H2 s2 I2 rv2 ⟨μ2, ds, st2, s2', x2, r2, h2⟩ => ?_
    exact run_fnX (us := .ref a :: us) (vs := .ref a :: vs2) F hr hF.tk I2 (.cons rfl rv2) (spR_of s2' (by simp only [RVs]; exact ⟨_, _, rfl, r1.ex x2, r2⟩) h2)
  · rw [if_neg hi] at h1; exact h1.elim
/-- e.f, a property; its getter raises nothing -/
def dProp (c : Nat) (G : FnD) (o : Den) : Den := fun ρ st => (o ρ st).bind fun x st => if isIns c x st = true then (match G [x] st with
  | .ok d st => .ok d st
  | _ => .bad) else .bad
theorem px_prop (c : Nat) {m : Str} {pp g : Addr} {fd : FuncData} {ps : List Str} {od : Den} (hF : Fits X T W) (hC : T.CT[c]? = some C) (hp : PropOf X.K C m pp g) (F : FnOk X.prog X.w X.K X.mg X.base (L2.CX X.prog X.w) k g fd ps (spR T G)) (hb : Binds X.K fd ps []) (hr : Room (k + 1) X.A) (ho : PX X T W e od)
    (hab : attributeBase e m X.env (eval e X.env) = eval e X.env := by rfl) : PX X T W (.Attribute e m pos) (dProp c G od) := by
  refine ⟨fun pins s σ H Q I ⟨μ, ρ, st, so, eo, h⟩ => ?_⟩
  refine attr_of hab (thn (ho.run pins s σ H _ I ⟨μ, ρ, st, so, eo, Post.bind (R := RV T) h⟩) fun u s1 ⟨v, H1, I1, rv, μ1, x, st1, s1', x1, r1, h1⟩ => ?_)
  by_cases hi : isIns c x st1 = true
  · rw [if_pos hi] at h1
    obtain ⟨n, fs, rfl, q⟩ := isIns_of (n := 0) hi
    obtain ⟨a, C', dx, vs, rfl, e1, g2, g3, g4, g5⟩ := ins_of s1' r1 q
    rw [hC] at g2; cases g2
    obtain rfl : u = Value.ref a := rv
    rw [← hF.K] at g3
    refine getprop_ok (CX := L2.CX X.prog X.w) (E := E0) I1 g4 g3 hp F hr hb .nil passL ⟨μ1, [.ref n], st1, s1', RVs.one (by simp only [RV]; exact ⟨a, rfl, e1⟩), ?_⟩
    revert h1
    generalize G [.ref n] st1 = R
    intro h1
    cases R with
    | ok d st2 => exact h1
    | exc c fs st2 => exact h1.elim
    | bad => exact h1
  · rw [if_neg hi] at h1; exact h1.elim
/-- C.m(..), a static method -/
structure SMet (K : PySem.W.Frag) (C : Addr) (m : Str) (g : Addr) : Prop where
  rd : PySem.W.readsIn K C (.type "type") = true
  ga : PySem.W.specialIn K (.ref C) "__getattribute__" = some (some (.builtin "type.__getattribute__"))
  at_ : ∃ p, PySem.W.findCls K (.ref C) (.type "type") m = some (.get (.builtin "staticmethod.__get__") (.ref p) .none (.ref C)) ∧ ∃ rest, PySem.W.recIn K p "staticmethod" = some (.ref g :: rest)
  kp : PySem.W.keepIn K (.ref g) = true
theorem px_static {x m : Str} {pl : Sem Bool} (hF : Fits X T W) (hS : SMet X.K C m f) (F : FnR X.prog X.w X.K X.mg X.base (L2.CX X.prog X.w) k f (spR T G)) (hr : Room k X.A) (hm : X.mg x = some (.ref C)) (ha : CallsBy X pos es (tA T W t)) (hg : Gl X x := by rfl)
    (hdb : (x == ("__debug__" : Str)) = false := by decide)
    (ht : eval (.Call (.Attribute (.Name x p) m apos) es [] pos) X.env = (do
      let ov ← eval (.Name x p) X.env
      standAt apos.atName
      let (f, first) ← holding [ov] (getMethod ov m pl)
      callWith pos f first (backTo pos (starEach es X.env)) (backToKw pos (keywordEach [] X.env))) := by rfl) :
    PX X T W (.Call (.Attribute (.Name x p) m apos) es [] pos) (dCall G t) := by
  refine ⟨fun pins s σ H Q I ⟨μ, ρ, st, so, eo, h⟩ => ?_⟩
  refine PySem.W.methodCall_KW (pl := pl) (ld_glob I hg hm ?_ hdb) ht
  obtain ⟨p, hat, rest, hrec⟩ := hS.at_
  refine PySem.W.method_cls I.kIn hS.ga (PySem.W.cls_bind I.kIn hS.rd hat (wpAny_call (PySem.W.sm_get (s := { s with toks := s.toks + 1 }) I.kIn hrec (PySem.W.handed_on rfl ?_))))
  refine ha pins _ σ H (.ref f) [] _ _ hS.kp (I.tok (s.toks + 1)) ⟨μ, ρ, st, so, eo, Post.bind (R := RVs T) h⟩ fun us vs H1 s1 I1 rv ⟨μ1, ds, st1, s1', x1, r1, h1⟩ => ?_
  exact run_fnX F hr hF.tk I1 rv (spR_of s1' r1 h1)
end
end FW

set_option Elab.async false
set_option linter.all false
set_option maxRecDepth 100000
set_option maxHeartbeats 4000000
namespace FW
open PySem PySem.Spec PyProof.Rows L2

/-! ### data as PyData -/
mutual
def pyOf (lk : Nat → Option PyData) : D → Option PyData
  | .non => some .none
  | .bl b => some (.bool b)
  | .int i => some (.int i)
  | .str s => some (.str s)
  | .tup xs => (pyOfs lk xs).map .tuple
  | .ref n => lk n
  | .scr ns => some (.list (ns.map .int))
def pyOfs (lk : Nat → Option PyData) : List D → Option (List PyData)
  | [] => some []
  | x :: xs => (pyOf lk x).bind fun a => (pyOfs lk xs).map fun b => a :: b
end
def lookL (st : DSto) (lk : Nat → Option PyData) (n : Nat) : Option PyData := match st[n]? with
  | some (.lst xs) => (pyOfs lk xs).map .list
  | _ => none
def reify (st : DSto) : D → Option PyData := pyOf (lookL st (lookL st (lookL st fun _ => none)))
section
variable {T : Tb} {μ : List Addr} {H : Hp} {st : DSto} {lk : Nat → Option PyData}
def LkOk (T : Tb) (μ : List Addr) (H : Hp) (lk : Nat → Option PyData) : Prop := ∀ n p a, lk n = some p → μ[n]? = some a → Dp T.K H (.ref a) p
theorem dp_ints (K : PySem.W.Frag) (H : Hp) : ∀ ns : List Int, DpAll K H (ns.map V.int) (ns.map PyData.int)
  | [] => .nil
  | n :: ns => .cons (.int n) (dp_ints K H ns)
mutual
theorem pyOf_ok (h : LkOk T μ H lk) : ∀ {d : D} {v : V} {p : PyData}, pyOf lk d = some p → RV T μ H d v → Dp T.K H v p
  | .non, v, p, e, r => by simp only [RV] at r; simp only [pyOf, Option.some.injEq] at e; subst r e; exact .non
  | .bl b, v, p, e, r => by simp only [RV] at r; simp only [pyOf, Option.some.injEq] at e; subst r e; exact .bl b
  | .int i, v, p, e, r => by simp only [RV] at r; simp only [pyOf, Option.some.injEq] at e; subst r e; exact .int i
  | .str s, v, p, e, r => by simp only [RV] at r; simp only [pyOf, Option.some.injEq] at e; subst r e; exact .str s
  | .tup xs, v, p, e, r => by
    simp only [RV] at r
    obtain ⟨a, vs, rfl, e1, rr⟩ := r
    simp only [pyOf, Option.map_eq_some_iff] at e
    obtain ⟨ps, e2, rfl⟩ := e
    exact .tup (SqT.of e1) (pyOfs_ok h e2 rr)
  | .ref n, v, p, e, r => by
    simp only [RV] at r
    obtain ⟨a, rfl, e1⟩ := r
    exact h n p a e e1
  | .scr ns, v, p, e, r => by
    simp only [RV] at r
    obtain ⟨a, rfl, e1⟩ := r
    simp only [pyOf, Option.some.injEq] at e
    subst e
    exact .lst (sqL_scr e1) (dp_ints _ _ ns)
theorem pyOfs_ok (h : LkOk T μ H lk) : ∀ {d : List D} {v : List V} {p : List PyData}, pyOfs lk d = some p → RVs T μ H d v → DpAll T.K H v p
  | [], v, p, e, r => by simp only [RVs] at r; simp only [pyOfs, Option.some.injEq] at e; subst r e; exact .nil
  | x :: xs, v, p, e, r => by
    simp only [RVs] at r
    obtain ⟨w, ws, rfl, r1, r2⟩ := r
    simp only [pyOfs] at e
    obtain ⟨a, e1, e⟩ := Option.bind_eq_some_iff.mp e
    obtain ⟨b, e2, e⟩ := Option.map_eq_some_iff.mp e
    subst e
    exact .cons (pyOf_ok h e1 r1) (pyOfs_ok h e2 r2)
end
theorem lookL_ok (s : SOk T μ H st) (h : LkOk T μ H lk) : LkOk T μ H (lookL st lk) := fun n p a e e1 => by
  unfold lookL at e
  cases q : st[n]? with
  | none => rw [q] at e; cases e
  | some o =>
    rw [q] at e
    cases o with
    | lst xs =>
      obtain ⟨ps, e2, rfl⟩ := Option.map_eq_some_iff.mp e
      obtain ⟨vs, e3, r⟩ := s.ro n _ a q e1
      exact .lst (SqL.of e3) (pyOfs_ok h e2 r)
    | _ => cases e
theorem reify_ok (s : SOk T μ H st) {d : D} {v : V} {p : PyData} (e : reify st d = some p) (r : RV T μ H d v) : Dp T.K H v p :=
  pyOf_ok (lookL_ok s (lookL_ok s (lookL_ok s fun _ _ _ e => by cases e))) e r
end

/-! ### comparisons -/
def eqO : OpD := fun x y st => match reify st x, reify st y with
  | some a, some b => if SeqAt.shaped a = true ∧ SeqAt.shaped b = true then some (.bl (PyData.eqv a b), st) else none
  | _, _ => none
def neO : OpD := fun x y st => match reify st x, reify st y with
  | some a, some b => if SeqAt.shaped a = true ∧ SeqAt.shaped b = true then some (.bl (!PyData.eqv a b), st) else none
  | _, _ => none
def cmpI (f : Int → Int → Bool) : OpD := fun x y st => match x, y with
  | .int i, .int j => some (.bl (f i j), st)
  | _, _ => none
abbrev ltO : OpD := cmpI fun i j => decide (i < j)
abbrev leO : OpD := cmpI fun i j => decide (i ≤ j)
abbrev gtO : OpD := cmpI fun i j => decide (j < i)
abbrev geO : OpD := cmpI fun i j => decide (j ≤ i)
/-- flat data -/
def flatD : D → Bool
  | .non | .bl _ | .int _ | .str _ => true
  | _ => false
def vOf : D → V
  | .bl b => .bl b
  | .int i => .int i
  | .str s => .str s
  | _ => .non
def memO (neg : Bool) : OpD := fun x y st => match y with
  | .tup ys => if flatD x = true ∧ ys.all flatD = true then some (.bl (if neg then !inV (vOf x) (ys.map vOf) else inV (vOf x) (ys.map vOf)), st) else none
  | .ref _ => match reify st x, reify st y with
    | some a, some (.list ds) => if SeqAt.shaped a = true ∧ SeqAt.shaped (.list ds) = true then some (.bl (if neg then !ds.any fun z => PyData.eqv z a else ds.any fun z => PyData.eqv z a), st) else none
    | _, _ => none
  | _ => none
abbrev inO : OpD := memO false
abbrev ninO : OpD := memO true
def isO : OpD := fun x y st => match y with
  | .non => some (.bl (decide (x = .non)), st)
  | .bl b => match x with
    | .bl a => some (.bl (decide (a = b)), st)
    | _ => none
  | _ => none
def nisO : OpD := fun x y st => match y with
  | .non => some (.bl (!decide (x = .non)), st)
  | .bl b => match x with
    | .bl a => some (.bl (!decide (a = b)), st)
    | _ => none
  | _ => none
section
variable {X : Cx} {T : Tb} {μ : List Addr} {H : Hp} {st : DSto}
theorem PostO.fin {d : D} {v : V} {Q : VK} (s : SOk T μ H st) (r : RV T μ H d v) (h : PostO T μ H (some (d, st)) Q) : Q v H := h μ v H s .refl r
theorem ox_eq (hK : X.K = T.K) (hu : X.A.units + 64 < cLine) : OpX X T (compareOp .Eq) eqO := OpR.imp (op_eqD hu) fun x y H Q ⟨μ, d, e, st, s, r1, r2, h⟩ => by
  unfold eqO at h
  cases q1 : reify st d with
  | none => simp only [q1] at h; exact h.elim
  | some a =>
    cases q2 : reify st e with
    | none => simp only [q1, q2] at h; exact h.elim
    | some b =>
      simp only [q1, q2] at h
      by_cases hs : SeqAt.shaped a = true ∧ SeqAt.shaped b = true
      · rw [if_pos hs] at h
        rw [hK]
        exact ⟨a, b, reify_ok s q1 r1, reify_ok s q2 r2, hs.1, hs.2, PostO.fin s (by simp [RV]) h⟩
      · rw [if_neg hs] at h; exact h.elim
theorem ox_ne (hK : X.K = T.K) (hu : X.A.units + 64 < cLine) : OpX X T (compareOp .NotEq) neO := OpR.imp (op_neD hu) fun x y H Q ⟨μ, d, e, st, s, r1, r2, h⟩ => by
  unfold neO at h
  cases q1 : reify st d with
  | none => simp only [q1] at h; exact h.elim
  | some a =>
    cases q2 : reify st e with
    | none => simp only [q1, q2] at h; exact h.elim
    | some b =>
      simp only [q1, q2] at h
      by_cases hs : SeqAt.shaped a = true ∧ SeqAt.shaped b = true
      · rw [if_pos hs] at h
        rw [hK]
        exact ⟨a, b, reify_ok s q1 r1, reify_ok s q2 r2, hs.1, hs.2, PostO.fin s (by simp [RV]) h⟩
      · rw [if_neg hs] at h; exact h.elim
theorem ints_of {d e : D} {x y : V} {i j : Int} (r1 : RV T μ H (.int i) x) (r2 : RV T μ H (.int j) y) : x = .int i ∧ y = .int j := by
  simp only [RV] at r1 r2; exact ⟨r1, r2⟩
theorem ox_cmpI {op : CmpOp} {f : Int → Int → Bool} (h0 : OpR X (compareOp op) (rI0 fun i j => .bl (f i j))) : OpX X T (compareOp op) (cmpI f) := OpR.imp h0 fun x y H Q ⟨μ, d, e, st, s, r1, r2, h⟩ => by
  cases d with
  | int i =>
    cases e with
    | int j =>
      obtain ⟨rfl, rfl⟩ := ints_of (d := .non) (e := .non) r1 r2
      exact ⟨i, j, rfl, rfl, PostO.fin s (by simp [RV]) h⟩
    | _ => exact h.elim
  | _ => exact h.elim
theorem ox_lt : OpX X T (compareOp .Lt) ltO := ox_cmpI op_lt
theorem ox_le : OpX X T (compareOp .LtE) leO := ox_cmpI op_le
theorem ox_gt : OpX X T (compareOp .Gt) gtO := ox_cmpI op_gt
theorem ox_ge : OpX X T (compareOp .GtE) geO := ox_cmpI op_ge
theorem flat_of {d : D} {v : V} (r : RV T μ H d v) (h : flatD d = true) : v = vOf d ∧ flatV v = true := by
  cases d with
  | non => simp only [RV] at r; subst r; exact ⟨rfl, rfl⟩
  | bl b => simp only [RV] at r; subst r; exact ⟨rfl, rfl⟩
  | int i => simp only [RV] at r; subst r; exact ⟨rfl, rfl⟩
  | str b => simp only [RV] at r; subst r; exact ⟨rfl, rfl⟩
  | _ => cases h
theorem flats_of : ∀ {ds : List D} {vs : List V}, RVs T μ H ds vs → ds.all flatD = true → vs = ds.map vOf ∧ vs.all flatV = true
  | [], _, r, _ => by simp only [RVs] at r; subst r; exact ⟨rfl, rfl⟩
  | d :: ds, _, r, h => by
    simp only [RVs] at r
    obtain ⟨v, ws, rfl, r1, r2⟩ := r
    rw [List.all_cons, Bool.and_eq_true] at h
    obtain ⟨e1, f1⟩ := flat_of r1 h.1
    obtain ⟨e2, f2⟩ := flats_of r2 h.2
    exact ⟨by rw [List.map_cons, ← e1, ← e2], by rw [List.all_cons, f1, f2]; rfl⟩
theorem ox_in (hK : X.K = T.K) (hu : X.A.units + 65 < cLine) : OpX X T (compareOp .In) inO := OpR.imp (op_in_seq.or (op_inD hu)) fun x y H Q ⟨μ, d, e, st, s, r1, r2, h⟩ => by
  unfold inO memO at h
  cases e with
  | tup ys =>
    dsimp only at h
    by_cases hf : flatD d = true ∧ ys.all flatD = true
    · rw [if_pos hf] at h
      simp only [RV] at r2
      obtain ⟨a, vs, rfl, e1, rr⟩ := r2
      obtain ⟨q1, f1⟩ := flat_of r1 hf.1
      obtain ⟨q2, f2⟩ := flats_of rr hf.2
      subst q1 q2
      exact .inl ⟨a, _, rfl, .inr (SqT.of e1), f1, f2, PostO.fin s (by simp [RV]) h⟩
    · rw [if_neg hf] at h; exact h.elim
  | ref n =>
    dsimp only at h
    cases q1 : reify st d with
    | none => simp only [q1] at h; exact h.elim
    | some a =>
      cases q2 : reify st (.ref n) with
      | none => simp only [q1, q2] at h; exact h.elim
      | some b =>
        cases b with
        | list ds =>
          simp only [q1, q2] at h
          by_cases hs : SeqAt.shaped a = true ∧ SeqAt.shaped (.list ds) = true
          · rw [if_pos hs] at h
            rw [hK]
            exact .inr ⟨a, ds, reify_ok s q1 r1, reify_ok s q2 r2, hs.1, hs.2, PostO.fin s (by simp [RV]) h⟩
          · rw [if_neg hs] at h; exact h.elim
        | _ => simp only [q1, q2] at h; exact h.elim
  | _ => exact h.elim
theorem ox_nin (hK : X.K = T.K) (hu : X.A.units + 65 < cLine) : OpX X T (compareOp .NotIn) ninO := OpR.imp (op_notIn_seq.or (op_notInD hu)) fun x y H Q ⟨μ, d, e, st, s, r1, r2, h⟩ => by
  unfold ninO memO at h
  cases e with
  | tup ys =>
    dsimp only at h
    by_cases hf : flatD d = true ∧ ys.all flatD = true
    · rw [if_pos hf] at h
      simp only [RV] at r2
      obtain ⟨a, vs, rfl, e1, rr⟩ := r2
      obtain ⟨q1, f1⟩ := flat_of r1 hf.1
      obtain ⟨q2, f2⟩ := flats_of rr hf.2
      subst q1 q2
      exact .inl ⟨a, _, rfl, .inr (SqT.of e1), f1, f2, PostO.fin s (by simp [RV]) h⟩
    · rw [if_neg hf] at h; exact h.elim
  | ref n =>
    dsimp only at h
    cases q1 : reify st d with
    | none => simp only [q1] at h; exact h.elim
    | some a =>
      cases q2 : reify st (.ref n) with
      | none => simp only [q1, q2] at h; exact h.elim
      | some b =>
        cases b with
        | list ds =>
          simp only [q1, q2] at h
          by_cases hs : SeqAt.shaped a = true ∧ SeqAt.shaped (.list ds) = true
          · rw [if_pos hs] at h
            rw [hK]
            exact .inr ⟨a, ds, reify_ok s q1 r1, reify_ok s q2 r2, hs.1, hs.2, PostO.fin s (by simp [RV]) h⟩
          · rw [if_neg hs] at h; exact h.elim
        | _ => simp only [q1, q2] at h; exact h.elim
  | _ => exact h.elim
theorem non_iff {d : D} {v : V} (r : RV T μ H d v) : decide (v = .non) = decide (d = .non) := by
  cases d with
  | non => simp only [RV] at r; simp [r]
  | bl b => simp only [RV] at r; simp [r]
  | int b => simp only [RV] at r; simp [r]
  | str b => simp only [RV] at r; simp [r]
  | tup b => simp only [RV] at r; obtain ⟨a, vs, e, _⟩ := r; simp [e]
  | ref b => simp only [RV] at r; obtain ⟨a, e, _⟩ := r; simp [e]
  | scr b => simp only [RV] at r; obtain ⟨a, e, _⟩ := r; simp [e]
theorem ox_is : OpX X T (compareOp .Is) isO := OpR.imp (op_isN.or op_isBl) fun x y H Q ⟨μ, d, e, st, s, r1, r2, h⟩ => by
  unfold isO at h
  cases e with
  | non =>
    simp only [RV] at r2
    subst r2
    exact .inl ⟨rfl, by rw [non_iff r1]; exact PostO.fin s (by simp [RV]) h⟩
  | bl b =>
    cases d with
    | bl a =>
      simp only [RV] at r1 r2
      subst r1 r2
      exact .inr ⟨a, b, rfl, rfl, PostO.fin s (by simp [RV]) h⟩
    | _ => exact h.elim
  | _ => exact h.elim
theorem ox_nis : OpX X T (compareOp .IsNot) nisO := OpR.imp (op_notN.or op_notBl) fun x y H Q ⟨μ, d, e, st, s, r1, r2, h⟩ => by
  unfold nisO at h
  cases e with
  | non =>
    simp only [RV] at r2
    subst r2
    exact .inl ⟨rfl, by rw [non_iff r1]; exact PostO.fin s (by simp [RV]) h⟩
  | bl b =>
    cases d with
    | bl a =>
      simp only [RV] at r1 r2
      subst r1 r2
      exact .inr ⟨a, b, rfl, rfl, PostO.fin s (by simp [RV]) h⟩
    | _ => exact h.elim
  | _ => exact h.elim
end

/-! ### arithmetic -/
def addO : OpD := fun x y st => match x, y with
  | .int i, .int j => some (.int (i + j), st)
  | .str a, .str b => if a.length + b.length ≤ sizeLine then some (.str (a ++ b), st) else none
  | .tup xs, .tup ys => if xs.length + ys.length ≤ sizeLine then some (.tup (xs ++ ys), st) else none
  | .ref n, .ref m => match st[n]?, st[m]? with
    | some (.lst xs), some (.lst ys) => if xs.length + ys.length ≤ sizeLine then some (.ref st.length, st ++ [.lst (xs ++ ys)]) else none
    | _, _ => none
  | _, _ => none
def subO : OpD := fun x y st => match x, y with
  | .int i, .int j => some (.int (i - j), st)
  | _, _ => none
def mulO : OpD := fun x y st => match x, y with
  | .int i, .int j => if (-(2 ^ 64) < i ∧ i < 2 ^ 64) ∨ (-(2 ^ 64) < j ∧ j < 2 ^ 64) then some (.int (i * j), st) else none
  | .str a, .int j => if a.length ≤ 16 ∧ 0 ≤ j ∧ j ≤ 1000 then some (.str (Txt.mul a j), st) else none
  | .ref n, .int k => match st[n]? with
    | some (.lst xs) => if -(2 ^ 63) ≤ k ∧ k < 2 ^ 63 ∧ xs.length * k.toNat ≤ sizeLine then some (.ref st.length, st ++ [.lst (List.replicate k.toNat xs).flatten]) else none
    | _ => none
  | _, _ => none
def fdivO : OpD := fun x y st => match x, y with
  | .int i, .int j => if 0 < j ∧ j < 1073741824 then some (.int (i / j), st) else none
  | _, _ => none
def modO : OpD := fun x y st => match x, y with
  | .int i, .int j => if 0 < j then some (.int (i % j), st) else none
  | _, _ => none
def powO : OpD := fun x y st => match x, y with
  | .int i, .int j => if 0 ≤ j ∧ j ≤ 1000000 ∧ i.natAbs < 2 ^ 64 then some (.int (i ^ j.toNat), st) else none
  | _, _ => none
section
variable {X : Cx} {T : Tb} {μ : List Addr} {H : Hp} {st : DSto}
theorem alloc_fin {d : DObj} {o : HO} {p : Addr} {Q : VK} (s : SOk T μ H st) (hp : H p = none) (r : RO T (μ ++ [p]) (upd H p o) d p) (h : PostO T μ H (some (.ref st.length, st ++ [d])) Q) : Q (.ref p) (upd H p o) := by
  obtain ⟨a1, a2, a3⟩ := new_ok s hp r
  exact h _ _ _ a1 a2 a3
theorem rvs_rep {xs : List D} {vs : List V} (r : RVs T μ H xs vs) : ∀ n, RVs T μ H (List.replicate n xs).flatten (List.replicate n vs).flatten
  | 0 => by simp [RVs]
  | n + 1 => by
    rw [List.replicate_succ, List.replicate_succ, List.flatten_cons, List.flatten_cons]
    exact r.app (rvs_rep r n)
theorem RVs.nil_iff {xs : List D} {vs : List V} (r : RVs T μ H xs vs) : vs = [] ↔ xs = [] := by
  have := r.len
  constructor
  · rintro rfl; exact List.eq_nil_of_length_eq_zero (by simpa using this.symm)
  · rintro rfl; exact List.eq_nil_of_length_eq_zero (by simpa using this)
theorem ox_add (hK : X.K = T.K) : OpX X T (binaryOp .Add) addO := OpR.imp ((op_add.or op_add_str).or (op_catA.or op_cat)) fun x y H Q ⟨μ, d, e, st, s, r1, r2, h⟩ => by
  unfold addO at h
  cases d with
  | int i =>
    cases e with
    | int j =>
      simp only [RV] at r1 r2; subst r1 r2
      exact .inl (.inl ⟨i, j, rfl, rfl, PostO.fin s (by simp [RV]) h⟩)
    | _ => exact h.elim
  | str a =>
    cases e with
    | str b =>
      dsimp only at h
      by_cases hz : a.length + b.length ≤ sizeLine
      · rw [if_pos hz] at h
        simp only [RV] at r1 r2; subst r1 r2
        exact .inl (.inr ⟨a, b, rfl, rfl, hz, PostO.fin s (by simp [RV]) h⟩)
      · rw [if_neg hz] at h; exact h.elim
    | _ => exact h.elim
  | tup xs =>
    cases e with
    | tup ys =>
      dsimp only at h
      by_cases hz : xs.length + ys.length ≤ sizeLine
      · rw [if_pos hz] at h
        have q1 := r1; have q2 := r2
        simp only [RV] at r1 r2
        obtain ⟨a, vs, rfl, e1, rr1⟩ := r1
        obtain ⟨b, ws, rfl, e2, rr2⟩ := r2
        refine .inr (.inl ⟨a, b, vs, ws, rfl, rfl, SqT.of e1, SqT.of e2, by rw [rr1.len, rr2.len]; exact hz, fun h0 => ?_, fun h0 h1 => ?_, fun h0 h1 p hp => ?_⟩)
        · have : xs = [] := rr1.nil_iff.mp h0
          subst this
          exact PostO.fin s (by simpa using q2) h
        · have : ys = [] := rr2.nil_iff.mp h1
          subst this
          exact PostO.fin s (by simpa using q1) h
        · obtain ⟨a1, a2, a3⟩ := upd_tup_ok s (rr1.app rr2) hp
          exact h μ _ _ a1 a2 a3
      · rw [if_neg hz] at h; exact h.elim
    | _ => exact h.elim
  | ref n =>
    cases e with
    | ref m =>
      simp only [RV] at r1 r2
      obtain ⟨a, rfl, e1⟩ := r1
      obtain ⟨b, rfl, e2⟩ := r2
      cases q1 : st[n]? with
      | none => simp only [q1] at h; exact h.elim
      | some o1 =>
        cases o1 with
        | lst xs =>
          cases q2 : st[m]? with
          | none => simp only [q1, q2] at h; exact h.elim
          | some o2 =>
            cases o2 with
            | lst ys =>
              simp only [q1, q2] at h
              by_cases hz : xs.length + ys.length ≤ sizeLine
              · rw [if_pos hz] at h
                obtain ⟨vs, h1, rr1⟩ := s.ro n _ a q1 e1
                obtain ⟨ws, h2, rr2⟩ := s.ro m _ b q2 e2
                exact .inr (.inr ⟨a, b, vs, ws, rfl, rfl, h1, h2, by rw [rr1.len, rr2.len]; exact hz, fun p hp => alloc_fin (d := .lst (xs ++ ys)) s hp ⟨_, upd_same, (rr1.app rr2).ex (ex_alloc hp)⟩ h⟩)
              · rw [if_neg hz] at h; exact h.elim
            | _ => simp only [q1, q2] at h; exact h.elim
        | _ => simp only [q1] at h; exact h.elim
    | _ => exact h.elim
  | _ => exact h.elim
theorem ox_int {op : Operator} {C : Int → Int → Prop} [∀ i j, Decidable (C i j)] {g : Int → Int → Int} (h0 : OpR X (binaryOp op) (rI C fun i j => .int (g i j))) :
    OpX X T (binaryOp op) (fun x y st => match x, y with | .int i, .int j => if C i j then some (.int (g i j), st) else none | _, _ => none) := OpR.imp h0 fun x y H Q ⟨μ, d, e, st, s, r1, r2, h⟩ => by
  cases d with
  | int i =>
    cases e with
    | int j =>
      dsimp only at h
      by_cases hz : C i j
      · rw [if_pos hz] at h
        simp only [RV] at r1 r2; subst r1 r2
        exact ⟨i, j, rfl, rfl, hz, PostO.fin s (by simp [RV]) h⟩
      · rw [if_neg hz] at h; exact h.elim
    | _ => exact h.elim
  | _ => exact h.elim
theorem ox_sub : OpX X T (binaryOp .Sub) subO := OpR.imp op_sub fun x y H Q ⟨μ, d, e, st, s, r1, r2, h⟩ => by
  cases d with
  | int i =>
    cases e with
    | int j =>
      simp only [RV] at r1 r2; subst r1 r2
      exact ⟨i, j, rfl, rfl, PostO.fin s (by simp [RV]) h⟩
    | _ => exact h.elim
  | _ => exact h.elim
instance (i j : Int) : Decidable (CDiv i j) := inferInstanceAs (Decidable (_ ∧ _))
instance (i j : Int) : Decidable (CPow i j) := inferInstanceAs (Decidable (_ ∧ _))
theorem ox_fdiv : OpX X T (binaryOp .FloorDiv) fdivO := ox_int (C := CDiv) op_fdiv
theorem ox_mod : OpX X T (binaryOp .Mod) modO := ox_int (C := fun _ j => 0 < j) op_mod
theorem ox_pow : OpX X T (binaryOp .Pow) powO := ox_int (C := CPow) op_pow
theorem op_mul_str : OpR X (binaryOp .Mult) (fun x y H Q => ∃ a k, x = .str a ∧ y = .int k ∧ a.length ≤ 16 ∧ 0 ≤ k ∧ k ≤ 1000 ∧ Q (.str (Txt.mul a k)) H) := by
  intro pins s σ H x y v u Q I rx ry h
  obtain ⟨a, k, rfl, rfl, h1, h2, h3, q⟩ := h
  obtain ⟨t, rfl⟩ := rx
  obtain ⟨t', rfl⟩ := ry
  exact SB.mul (mulOk_of 16 1000 h1 (by omega) (by omega) (by decide) (by decide)) fun t' k' => ⟨.str _, H, I.tok _, ⟨_, rfl⟩, q⟩
theorem ox_mul : OpX X T (binaryOp .Mult) mulO := OpR.imp (op_mul.or (op_mul_str.or op_rep)) fun x y H Q ⟨μ, d, e, st, s, r1, r2, h⟩ => by
  unfold mulO at h
  cases d with
  | int i =>
    cases e with
    | int j =>
      dsimp only at h
      by_cases hz : (-(2 ^ 64) < i ∧ i < 2 ^ 64) ∨ (-(2 ^ 64) < j ∧ j < 2 ^ 64)
      · rw [if_pos hz] at h
        simp only [RV] at r1 r2; subst r1 r2
        exact .inl ⟨i, j, rfl, rfl, hz, PostO.fin s (by simp [RV]) h⟩
      · rw [if_neg hz] at h; exact h.elim
    | _ => exact h.elim
  | str a =>
    cases e with
    | int j =>
      dsimp only at h
      by_cases hz : a.length ≤ 16 ∧ 0 ≤ j ∧ j ≤ 1000
      · rw [if_pos hz] at h
        simp only [RV] at r1 r2; subst r1 r2
        exact .inr (.inl ⟨a, j, rfl, rfl, hz.1, hz.2.1, hz.2.2, PostO.fin s (by simp [RV]) h⟩)
      · rw [if_neg hz] at h; exact h.elim
    | _ => exact h.elim
  | ref n =>
    cases e with
    | int k =>
      simp only [RV] at r1 r2
      obtain ⟨a, rfl, e1⟩ := r1
      subst r2
      cases q1 : st[n]? with
      | none => simp only [q1] at h; exact h.elim
      | some o1 =>
        cases o1 with
        | lst xs =>
          simp only [q1] at h
          by_cases hz : -(2 ^ 63) ≤ k ∧ k < 2 ^ 63 ∧ xs.length * k.toNat ≤ sizeLine
          · rw [if_pos hz] at h
            obtain ⟨vs, h1, rr⟩ := s.ro n _ a q1 e1
            exact .inr (.inr ⟨a, k, vs, rfl, rfl, h1, hz.1, hz.2.1, by rw [rr.len]; exact hz.2.2, fun p hp => alloc_fin (d := .lst (List.replicate k.toNat xs).flatten) s hp ⟨_, upd_same, (rvs_rep rr _).ex (ex_alloc hp)⟩ h⟩)
          · rw [if_neg hz] at h; exact h.elim
        | _ => simp only [q1] at h; exact h.elim
    | _ => exact h.elim
  | _ => exact h.elim
end
end FW

set_option Elab.async false
set_option linter.all false
set_option maxRecDepth 100000
set_option maxHeartbeats 4000000
namespace FW
open PySem PySem.Spec PyProof.Rows L2

abbrev OpL := List D → DSto → Option (D × DSto)
def rC (T : Tb) (g : OpL) : List V → Hp → VK → Prop := fun vs H Q => ∃ μ ds st, SOk T μ H st ∧ RVs T μ H ds vs ∧ PostO T μ H (g ds st) Q
abbrev CallX (X : Cx) (T : Tb) (f : Value) (g : OpL) : Prop := CallR X f (rC T g)
theorem CallR.imp {X : Cx} {f : Value} {r r' : List V → Hp → VK → Prop} (h : CallR X f r) (k : ∀ vs H Q, r' vs H Q → r vs H Q) : CallR X f r' := fun pins s σ H xs us Q I r q => h pins s σ H xs us Q I r (k xs H Q q)
def dB' (g : OpL) (t : DenA) : Den := fun ρ st => (t ρ st).bind fun ds st => ofO (g ds st)
section
variable {X : Cx} {T : Tb} {W : WX} {pos p apos : Pos} {e : Expr} {es : List Expr} {d : Den} {t : DenA} {g : OpL} {x : Str} {id : String}
theorem tCB_of {σ : L2.St} {H : Hp} {Q : VK} (h : tI T W (dB' g t) σ H Q) : tCB (rC T g) (tA T W t) σ H Q := by
  obtain ⟨μ, ρ, st, s, eo, h⟩ := h
  exact ⟨μ, ρ, st, s, eo, (Post.bind (R := RVs T) h).mono fun vs H1 ⟨μ1, ds, st1, s1, x1, r1, h1⟩ => ⟨μ1, ds, st1, s1, r1, PostO.of h1⟩⟩
theorem px_callB (hc : CallX X T (.builtin id) g) (hm : X.mg x = none) (ha : PAX X T W (e :: es) t) (hv : bootBuiltins x = some (.builtin id) := by decide +kernel) (hg : Gl X x := by rfl) (hn : x ≠ "__name__" := by decide) (hdb : (x == ("__debug__" : Str)) = false := by decide)
    (he : starEach (e :: es) X.env = (false, eval e X.env) :: starEach es X.env := by rfl) (hpl : (backTo pos (starEach es X.env)).any (·.1) = false := by rfl) : PX X T W (.Call (.Name x p) (e :: es) [] pos) (dB' g t) :=
  pe_imp (pe_callB hc hg hm hv ha hn hdb he hpl) fun _ _ _ h => tCB_of h
theorem px_callTy {Ty : String} (hc : CallX X T (.type Ty) g) (hm : X.mg x = none) (ha : PAX X T W (e :: es) t) (hv : bootBuiltins x = some (.type Ty) := by decide +kernel) (hg : Gl X x := by rfl) (hn : x ≠ "__name__" := by decide) (hdb : (x == ("__debug__" : Str)) = false := by decide)
    (he : starEach (e :: es) X.env = (false, eval e X.env) :: starEach es X.env := by rfl) (hpl : (backTo pos (starEach es X.env)).any (·.1) = false := by rfl) : PX X T W (.Call (.Name x p) (e :: es) [] pos) (dB' g t) :=
  pe_imp (pe_callTy hc hg hm hv ha hn hdb he hpl) fun _ _ _ h => tCB_of h
end

/-! ### the built-in functions -/
def lenO : OpL := fun ds st => match ds with
  | [.str s] => if s.length ≤ sizeLine then some (.int s.length, st) else none
  | [.tup xs] => some (.int xs.length, st)
  | [.ref n] => match st[n]? with
    | some (.lst xs) => some (.int xs.length, st)
    | some (.dct kvs) => some (.int kvs.length, st)
    | _ => none
  | [.scr ns] => some (.int ns.length, st)
  | _ => none
def intO : OpL := fun ds st => match ds with
  | [.int i] => some (.int i, st)
  | [.bl b] => some (.int (if b then 1 else 0), st)
  | _ => none
def intsD : List D → Option (List Int)
  | [] => some []
  | .int i :: r => (intsD r).map (i :: ·)
  | _ => none
def blsD : List D → Option (List Bool)
  | [] => some []
  | .bl i :: r => (blsD r).map (i :: ·)
  | _ => none
def sumO : OpL := fun ds st => match ds with
  | [.ref n] => match st[n]? with
    | some (.lst xs) => (intsD xs).map fun ns => (.int ns.sum, st)
    | _ => none
  | _ => none
def allO : OpL := fun ds st => match ds with
  | [.ref n] => match st[n]? with
    | some (.lst xs) => (blsD xs).map fun ns => (.bl (ns.all id), st)
    | _ => none
  | _ => none
def anyO : OpL := fun ds st => match ds with
  | [.ref n] => match st[n]? with
    | some (.lst xs) => (blsD xs).map fun ns => (.bl (ns.any id), st)
    | _ => none
  | _ => none
def listO : OpL := fun ds st => match ds with
  | [x] => (itemsD x st).map fun xs => (.ref st.length, st ++ [.lst xs])
  | _ => none
def tupleO : OpL := fun ds st => match ds with
  | [x] => (itemsD x st).map fun xs => (.tup xs, st)
  | _ => none
def maxO : OpL := fun ds st => match ds with
  | [.int i, .int j] => some (.int (if j > i then j else i), st)
  | _ => none
def minO : OpL := fun ds st => match ds with
  | [.int i, .int j] => some (.int (if j < i then j else i), st)
  | _ => none
section
variable {X : Cx} {T : Tb} {μ : List Addr} {H : Hp} {st : DSto}
theorem rvs1 {d : D} {vs : List V} (r : RVs T μ H [d] vs) : ∃ v, vs = [v] ∧ RV T μ H d v := by
  simp only [RVs] at r
  obtain ⟨v, ws, rfl, r1, rfl⟩ := r
  exact ⟨v, rfl, r1⟩
theorem rvs2 {d e : D} {vs : List V} (r : RVs T μ H [d, e] vs) : ∃ v w, vs = [v, w] ∧ RV T μ H d v ∧ RV T μ H e w := by
  simp only [RVs] at r
  obtain ⟨v, ws, rfl, r1, w, ws2, rfl, r2, rfl⟩ := r
  exact ⟨v, w, rfl, r1, r2⟩
theorem paired_len {α β : Type} {F : α → β → Prop} : ∀ {l : List α} {m : List β}, Paired F l m → m.length = l.length
  | _, _, .nil => rfl
  | _, _, .cons _ t => by simp [paired_len t]
theorem cx_len (hK : X.K = T.K) : CallX X T (.builtin "len") lenO := CallR.imp ((call_len.or call_lenD).or call_len_dT) fun vs H Q ⟨μ, ds, st, s, r, h⟩ => by
  unfold lenO at h
  match ds, h with
  | [.str z], h =>
    obtain ⟨v, rfl, r1⟩ := rvs1 r
    simp only [RV] at r1; subst r1
    dsimp only at h
    by_cases hz : z.length ≤ sizeLine
    · rw [if_pos hz] at h
      exact .inl (.inl ⟨_, z.length, rfl, ⟨hz, rfl⟩, PostO.fin s (by simp [RV]) h⟩)
    · rw [if_neg hz] at h; exact h.elim
  | [.tup xs], h =>
    obtain ⟨v, rfl, r1⟩ := rvs1 r
    simp only [RV] at r1
    obtain ⟨a, ws, rfl, e, rr⟩ := r1
    exact .inl (.inl ⟨_, xs.length, rfl, .inr ⟨ws, SqT.of e, rr.len.symm⟩, PostO.fin s (by simp [RV]) h⟩)
  | [.scr ns], h =>
    obtain ⟨v, rfl, r1⟩ := rvs1 r
    simp only [RV] at r1
    obtain ⟨a, rfl, e⟩ := r1
    exact .inl (.inl ⟨_, ns.length, rfl, .inl ⟨_, by rw [hK]; exact sqL_scr e, by simp⟩, PostO.fin s (by simp [RV]) h⟩)
  | [.ref n], h =>
    obtain ⟨v, rfl, r1⟩ := rvs1 r
    simp only [RV] at r1
    obtain ⟨a, rfl, e⟩ := r1
    dsimp only at h
    cases q : st[n]? with
    | none => simp only [q] at h; exact h.elim
    | some o =>
      cases o with
      | lst xs =>
        simp only [q] at h
        obtain ⟨ws, e1, rr⟩ := s.ro n _ a q e
        exact .inl (.inl ⟨_, xs.length, rfl, .inl ⟨ws, SqL.of e1, rr.len.symm⟩, PostO.fin s (by simp [RV]) h⟩)
      | dct kvs =>
        simp only [q] at h
        rcases s.ro n _ a q e with ⟨ks, e1, rr⟩ | ⟨ks, e1, rr⟩
        · exact .inl (.inr ⟨a, ks, rfl, e1, by rw [paired_len rr]; exact PostO.fin s (by simp [RV]) h⟩)
        · exact .inr ⟨a, ks, rfl, e1, by rw [paired_len rr]; exact PostO.fin s (by simp [RV]) h⟩
      | ins c fs => simp only [q] at h; exact h.elim
      | set xs => simp only [q] at h; exact h.elim
theorem cx_int : CallX X T (.type "int") intO := CallR.imp call_int1 fun vs H Q ⟨μ, ds, st, s, r, h⟩ => by
  unfold intO at h
  match ds, h with
  | [.int i], h =>
    obtain ⟨v, rfl, r1⟩ := rvs1 r
    simp only [RV] at r1; subst r1
    exact .inl ⟨i, rfl, PostO.fin s (by simp [RV]) h⟩
  | [.bl b], h =>
    obtain ⟨v, rfl, r1⟩ := rvs1 r
    simp only [RV] at r1; subst r1
    exact .inr ⟨b, rfl, PostO.fin s (by simp [RV]) h⟩
theorem intsD_ok : ∀ {xs : List D} {vs : List V} {ns : List Int}, intsD xs = some ns → RVs T μ H xs vs → vs = ns.map V.int
  | [], vs, ns, h, r => by simp only [intsD, Option.some.injEq] at h; subst h; simpa [RVs] using r
  | .int i :: xs, vs, ns, h, r => by
    simp only [intsD, Option.map_eq_some_iff] at h
    obtain ⟨ms, h, rfl⟩ := h
    simp only [RVs, RV] at r
    obtain ⟨v, ws, rfl, rfl, r2⟩ := r
    rw [intsD_ok h r2]; rfl
theorem blsD_ok : ∀ {xs : List D} {vs : List V} {ns : List Bool}, blsD xs = some ns → RVs T μ H xs vs → vs = ns.map V.bl
  | [], vs, ns, h, r => by simp only [blsD, Option.some.injEq] at h; subst h; simpa [RVs] using r
  | .bl i :: xs, vs, ns, h, r => by
    simp only [blsD, Option.map_eq_some_iff] at h
    obtain ⟨ms, h, rfl⟩ := h
    simp only [RVs, RV] at r
    obtain ⟨v, ws, rfl, rfl, r2⟩ := r
    rw [blsD_ok h r2]; rfl
theorem lst_of {n : Nat} {xs : List D} {v : V} (s : SOk T μ H st) (r : RV T μ H (.ref n) v) (q : st[n]? = some (.lst xs)) : ∃ a vs, v = .ref a ∧ μ[n]? = some a ∧ H a = some (.lst vs) ∧ RVs T μ H xs vs := by
  simp only [RV] at r
  obtain ⟨a, rfl, e⟩ := r
  obtain ⟨vs, e1, rr⟩ := s.ro n _ a q e
  exact ⟨a, vs, rfl, e, e1, rr⟩
theorem cx_sum (hc : X.calm = true) : CallX X T (.builtin "sum") sumO := CallR.imp (cr_sum hc) fun vs H Q ⟨μ, ds, st, s, r, h⟩ => by
  unfold sumO at h
  match ds, h with
  | [.ref n], h =>
    obtain ⟨v, rfl, r1⟩ := rvs1 r
    dsimp only at h
    cases q : st[n]? with
    | none => simp only [q] at h; exact h.elim
    | some o =>
      cases o with
      | lst xs =>
        simp only [q] at h
        obtain ⟨a, ws, rfl, e, e1, rr⟩ := lst_of s r1 q
        cases q2 : intsD xs with
        | none => simp only [q2] at h; exact h.elim
        | some ns =>
          simp only [q2, Option.map_some] at h
          rw [intsD_ok q2 rr] at e1
          exact ⟨a, ns, rfl, SqL.of e1, PostO.fin s (by simp [RV]) h⟩
      | _ => simp only [q] at h; exact h.elim
theorem cx_all (hc : X.calm = true) : CallX X T (.builtin "all") allO := CallR.imp (cr_all hc) fun vs H Q ⟨μ, ds, st, s, r, h⟩ => by
  unfold allO at h
  match ds, h with
  | [.ref n], h =>
    obtain ⟨v, rfl, r1⟩ := rvs1 r
    dsimp only at h
    cases q : st[n]? with
    | none => simp only [q] at h; exact h.elim
    | some o =>
      cases o with
      | lst xs =>
        simp only [q] at h
        obtain ⟨a, ws, rfl, e, e1, rr⟩ := lst_of s r1 q
        cases q2 : blsD xs with
        | none => simp only [q2] at h; exact h.elim
        | some ns =>
          simp only [q2, Option.map_some] at h
          rw [blsD_ok q2 rr] at e1
          exact ⟨a, ns, rfl, SqL.of e1, PostO.fin s (by simp [RV]) h⟩
      | _ => simp only [q] at h; exact h.elim
theorem cx_any (hc : X.calm = true) : CallX X T (.builtin "any") anyO := CallR.imp (cr_any hc) fun vs H Q ⟨μ, ds, st, s, r, h⟩ => by
  unfold anyO at h
  match ds, h with
  | [.ref n], h =>
    obtain ⟨v, rfl, r1⟩ := rvs1 r
    dsimp only at h
    cases q : st[n]? with
    | none => simp only [q] at h; exact h.elim
    | some o =>
      cases o with
      | lst xs =>
        simp only [q] at h
        obtain ⟨a, ws, rfl, e, e1, rr⟩ := lst_of s r1 q
        cases q2 : blsD xs with
        | none => simp only [q2] at h; exact h.elim
        | some ns =>
          simp only [q2, Option.map_some] at h
          rw [blsD_ok q2 rr] at e1
          exact ⟨a, ns, rfl, SqL.of e1, PostO.fin s (by simp [RV]) h⟩
      | _ => simp only [q] at h; exact h.elim
theorem cx_list (hK : X.K = T.K) : CallX X T (.type "list") listO := CallR.imp call_list_of fun vs H Q ⟨μ, ds, st, s, r, h⟩ => by
  unfold listO at h
  match ds, h with
  | [x], h =>
    obtain ⟨v, rfl, r1⟩ := rvs1 r
    dsimp only at h
    cases q : itemsD x st with
    | none => simp only [q] at h; exact h.elim
    | some xs =>
      simp only [q, Option.map_some] at h
      obtain ⟨a, ws, rfl, rr, sq⟩ := items_of hK s r1 q
      exact ⟨a, ws, rfl, sq, fun l hl => alloc_fin (d := .lst xs) s hl ⟨_, upd_same, rr.ex (ex_alloc hl)⟩ h⟩
theorem cx_tuple (hK : X.K = T.K) : CallX X T (.type "tuple") tupleO := CallR.imp call_tuple_of fun vs H Q ⟨μ, ds, st, s, r, h⟩ => by
  unfold tupleO at h
  match ds, h with
  | [x], h =>
    obtain ⟨v, rfl, r1⟩ := rvs1 r
    dsimp only at h
    cases q : itemsD x st with
    | none => simp only [q] at h; exact h.elim
    | some xs =>
      simp only [q, Option.map_some] at h
      cases x with
      | tup ys =>
        cases (show some ys = some xs from q)
        have r2 := r1
        simp only [RV] at r1
        obtain ⟨a, ws, rfl, e, rr⟩ := r1
        exact ⟨a, ws, rfl, .inr ⟨SqT.of e, PostO.fin s r2 h⟩⟩
      | ref n =>
        unfold itemsD at q
        cases q1 : st[n]? with
        | none => simp only [q1] at q; cases q
        | some o =>
          cases o with
          | lst ys =>
            simp only [q1] at q
            cases q
            obtain ⟨a, ws, rfl, e, e1, rr⟩ := lst_of s r1 q1
            refine ⟨a, ws, rfl, .inl ⟨SqL.of e1, fun l hl => ?_⟩⟩
            obtain ⟨a1, a2, a3⟩ := upd_tup_ok s rr hl
            exact h _ _ _ a1 a2 a3
          | _ => simp only [q1] at q; cases q
      | scr ns =>
        cases (show some (ns.map D.int) = some xs from q)
        simp only [RV] at r1
        obtain ⟨a, rfl, e⟩ := r1
        refine ⟨a, _, rfl, .inl ⟨by rw [hK]; exact sqL_scr e, fun l hl => ?_⟩⟩
        obtain ⟨a1, a2, a3⟩ := upd_tup_ok s (rvs_ints ns) hl
        exact h _ _ _ a1 a2 a3
      | _ => cases q
theorem cx_max (hc : X.calm = true) : CallX X T (.builtin "max") maxO := CallR.imp (call_max2 hc) fun vs H Q ⟨μ, ds, st, s, r, h⟩ => by
  unfold maxO at h
  match ds, h with
  | [.int i, .int j], h =>
    obtain ⟨v, w, rfl, r1, r2⟩ := rvs2 r
    simp only [RV] at r1 r2; subst r1 r2
    exact ⟨i, j, rfl, PostO.fin s (by simp [RV]) h⟩
theorem cx_min (hc : X.calm = true) : CallX X T (.builtin "min") minO := CallR.imp (call_min2 hc) fun vs H Q ⟨μ, ds, st, s, r, h⟩ => by
  unfold minO at h
  match ds, h with
  | [.int i, .int j], h =>
    obtain ⟨v, w, rfl, r1, r2⟩ := rvs2 r
    simp only [RV] at r1 r2; subst r1 r2
    exact ⟨i, j, rfl, PostO.fin s (by simp [RV]) h⟩
end

/-! ### subscripts, slices, stores -/
def ixO : OpD := fun x y st => match y with
  | .int i => match x with
    | .str z => if z.length ≤ sizeLine then (atI z.cps.toList i).map fun c => (.str ⟨#[c]⟩, st) else none
    | _ => (itemsD x st).bind fun xs => (atI xs i).map fun v => (v, st)
  | _ => none
section
variable {X : Cx} {T : Tb} {W : WX} {μ : List Addr} {H : Hp} {st : DSto} {a b : Expr} {da db : Den} {pos : Pos}
theorem atI_rvs {xs : List D} {vs : List V} {i : Int} {d : D} (r : RVs T μ H xs vs) (h : atI xs i = some d) : ∃ v, atI vs i = some v ∧ RV T μ H d v := by
  unfold atI at h ⊢
  rw [r.len]
  cases q : ixN xs.length i with
  | none => rw [q] at h; cases h
  | some j =>
    rw [q] at h
    exact r.get h
theorem ixx (hK : X.K = T.K) : IxR X (rD T ixO) := fun value slice pins s σ H x y v u Q I rx ry ⟨μ, d, e, st, so, r1, r2, h⟩ hs => by
  refine ix_seq value slice pins s σ H x y v u Q I rx ry ?_ hs
  unfold ixO at h
  cases e with
  | int i =>
    simp only [RV] at r2; subst r2
    have seq : ∀ {xs : List D} {dd : D}, itemsD d st = some xs → (∀ z, d ≠ .str z) → PostO T μ H ((atI xs i).map fun v => (v, st)) Q → rIx X.K x (.int i) H Q := fun {xs dd} q hn h => by
      obtain ⟨p, ws, rfl, rr, sq⟩ := items_of hK so r1 q
      cases q2 : atI xs i with
      | none => rw [q2] at h; exact h.elim
      | some z =>
        rw [q2] at h
        obtain ⟨w, e1, r3⟩ := atI_rvs rr q2
        rcases sq with sq | sq
        · exact .inl ⟨p, ws, i, w, rfl, rfl, sq, e1, PostO.fin so r3 h⟩
        · exact .inr (.inl ⟨p, ws, i, w, rfl, rfl, sq, e1, PostO.fin so r3 h⟩)
    cases d with
    | str z =>
      dsimp only at h
      by_cases hz : z.length ≤ sizeLine
      · rw [if_pos hz] at h
        simp only [RV] at r1; subst r1
        cases q : atI z.cps.toList i with
        | none => rw [q] at h; exact h.elim
        | some c =>
          rw [q] at h
          exact .inr (.inr ⟨z, i, c, rfl, rfl, hz, q, PostO.fin so (by simp [RV]) h⟩)
      · rw [if_neg hz] at h; exact h.elim
    | tup xs => exact seq (dd := .non) rfl (fun _ => by simp) h
    | ref n =>
      cases q : itemsD (.ref n) st with
      | none => simp only [q] at h; exact h.elim
      | some xs => simp only [q] at h; exact seq (dd := .non) q (fun _ => by simp) h
    | scr ns => exact seq (dd := .non) rfl (fun _ => by simp) h
    | non => exact h.elim
    | bl b => exact h.elim
    | int b => exact h.elim
  | _ => exact h.elim
theorem px_ix (hK : X.K = T.K) (ha : PX X T W a da) (hb : PX X T W b db) (hs : PlainIx b := by exact fun _ _ => rfl) : PX X T W (.Subscript a b pos) (dOp ixO da db) :=
  pe_imp (pe_ix (ixx hK) ha hb hs) fun _ _ _ h => tOp_of h
/-- a part of a slice -/
def dPart (d : Option Den) : DEnv → DSto → DRes (Option Int) := fun ρ st => match d with
  | none => .ok none st
  | some d => (d ρ st).bind fun x st => match x with
    | .int i => .ok (some i) st
    | _ => .bad
def tPt (T : Tb) (W : WX) (d : Option Den) : TO := fun σ H Q => ∃ μ ρ st, SOk T μ H st ∧ EOk T μ H ρ σ ∧ Post T (fun _ _ a b => a = b) W σ μ H (dPart d ρ st) Q
theorem po_imp {e : Option Expr} {t t' : TO} (h : PO X e t) (f : ∀ σ H Q, t' σ H Q → t σ H Q) : PO X e t' := ⟨fun pins s σ H Q I q => h.run pins s σ H Q I (f σ H Q q)⟩
theorem pox_none : PO X none (tPt T W none) := po_imp po_none fun σ H Q ⟨μ, ρ, st, s, eo, h⟩ => h μ none H s .refl rfl
theorem pox_some {e : Expr} {d : Den} (h : PX X T W e d) : PO X (some e) (tPt T W (some d)) := po_imp (po_some h) fun σ H Q ⟨μ, ρ, st, s, eo, h⟩ =>
  ⟨μ, ρ, st, s, eo, (Post.bind (R := RV T) h).mono fun v H1 ⟨μ1, x, st1, s1, x1, r1, h1⟩ => by
    cases x with
    | int i => simp only [RV] at r1; exact ⟨i, r1, h1 μ1 _ H1 s1 .refl rfl⟩
    | _ => exact h1.elim⟩
def cutD (xs : List D) (lo hi : Option Int) : List D := (xs.drop (HT.sIx xs.length 0 lo)).take (HT.sIx xs.length xs.length hi - HT.sIx xs.length 0 lo)
def slO (x : D) (lo hi : Option Int) (st : DSto) : Option (D × DSto) := match x with
  | .str z => if z.length ≤ sizeLine then some (.str (cutS z lo hi), st) else none
  | .tup xs => some (.tup (cutD xs lo hi), st)
  | .ref n => match st[n]? with
    | some (.lst xs) => some (.ref st.length, st ++ [.lst (cutD xs lo hi)])
    | _ => none
  | .scr ns => some (.ref st.length, st ++ [.lst (cutD (ns.map D.int) lo hi)])
  | _ => none
def dSl (d : Den) (lo hi : Option Den) : Den := fun ρ st => (d ρ st).bind fun x st => (dPart lo ρ st).bind fun l st => (dPart hi ρ st).bind fun h st => ofO (slO x l h st)
theorem cut_rvs {xs : List D} {vs : List V} (r : RVs T μ H xs vs) (lo hi : Option Int) : RVs T μ H (cutD xs lo hi) (cutV vs lo hi) := by
  unfold cutD cutV
  rw [r.len]
  exact (r.drop _).take _
theorem cut_whole {xs : List D} {lo hi : Option Int} (h : HT.sIx xs.length 0 lo = 0 ∧ HT.sIx xs.length xs.length hi = xs.length) : cutD xs lo hi = xs := by
  unfold cutD
  rw [h.1, h.2]
  simp
theorem px_slice {e : Expr} {lo hi : Option Expr} {p2 : Pos} {d : Den} {dl dh : Option Den} (hK : X.K = T.K) (he : PX X T W e d) (hl : PO X lo (tPt T W dl)) (hh : PO X hi (tPt T W dh)) : PX X T W (.Subscript e (.Slice lo hi none p2) pos) (dSl d dl dh) :=
  pe_imp (pe_slice (sl_list.or (sl_str.or sl_tupA)) he hl hh) fun σ H Q ⟨μ, ρ, st, s, eo, h⟩ =>
    ⟨μ, ρ, st, s, eo, (Post.bind (R := RV T) h).mono fun v H1 ⟨μ1, x, st1, s1, x1, r1, h1⟩ =>
      ⟨μ1, ρ, st1, s1, eo.ex x1, (Post.bind (R := fun _ _ a b => a = b) h1).mono fun l H2 ⟨μ2, l', st2, s2, x2, e2, h2⟩ =>
        ⟨μ2, ρ, st2, s2, (eo.ex x1).ex x2, (Post.bind (R := fun _ _ a b => a = b) h2).mono fun u H3 ⟨μ3, u', st3, s3, x3, e3, h3⟩ => by
          subst e2 e3
          have r3 := (r1.ex x2).ex x3
          have h3 := PostO.of h3
          cases x with
          | str z =>
            simp only [slO] at h3
            by_cases hz : z.length ≤ sizeLine
            · rw [if_pos hz] at h3
              simp only [RV] at r3; subst r3
              exact .inr (.inl ⟨z, rfl, hz, PostO.fin s3 (by simp [RV]) h3⟩)
            · rw [if_neg hz] at h3; exact h3.elim
          | tup xs =>
            have r4 := r3
            simp only [RV] at r3
            obtain ⟨a, vs, rfl, e4, rr⟩ := r3
            refine .inr (.inr ⟨a, vs, rfl, SqT.of e4, fun hw => ?_, fun hw p hp => ?_⟩)
            · rw [rr.len] at hw
              simp only [slO, cut_whole hw] at h3
              exact PostO.fin s3 r4 h3
            · obtain ⟨a1, a2, a3⟩ := upd_tup_ok s3 (cut_rvs rr l' u') hp
              exact h3 _ _ _ a1 a2 a3
          | ref n =>
            cases q : st3[n]? with
            | none => simp only [slO, q] at h3; exact h3.elim
            | some o =>
              cases o with
              | lst xs =>
                simp only [slO, q] at h3
                obtain ⟨a, vs, rfl, e4, e5, rr⟩ := lst_of s3 r3 q
                exact .inl ⟨a, vs, rfl, SqL.of e5, fun p hp => alloc_fin (d := .lst (cutD xs l' u')) s3 hp ⟨_, upd_same, (cut_rvs rr l' u').ex (ex_alloc hp)⟩ h3⟩
              | _ => simp only [slO, q] at h3; exact h3.elim
          | scr ns =>
            simp only [RV] at r3
            obtain ⟨a, rfl, e4⟩ := r3
            exact .inl ⟨a, _, rfl, by rw [hK]; exact sqL_scr e4, fun p hp => alloc_fin (d := .lst (cutD (ns.map D.int) l' u')) s3 hp ⟨_, upd_same, (cut_rvs (rvs_ints ns) l' u').ex (ex_alloc hp)⟩ h3⟩
          | _ => exact h3.elim⟩⟩⟩
def setLO : SetD := fun o i v st => match o, i with
  | .ref n, .int k => match st[n]? with
    | some (.lst xs) => (ixN xs.length k).map fun j => st.set n (.lst (xs.set j v))
    | _ => none
  | _, _ => none
theorem sx_lst : SetX X T setLO := pset_imp set_list fun o i v H Q ⟨μ, od, id, d, st, s, r1, r2, r3, h⟩ => by
  unfold setLO at h
  cases od with
  | ref n =>
    cases id with
    | int k =>
      simp only [RV] at r2; subst r2
      dsimp only at h
      cases q : st[n]? with
      | none => simp only [q] at h; exact h.elim
      | some ob =>
        cases ob with
        | lst xs =>
          simp only [q] at h
          obtain ⟨a, vs, rfl, e, e1, rr⟩ := lst_of s r1 q
          cases q2 : ixN xs.length k with
          | none => simp only [q2] at h; exact h.elim
          | some j =>
            simp only [q2, Option.map_some] at h
            have x3 : Ex μ H μ (upd H a (.lst (vs.set j v))) := ex_write s (List.mem_of_getElem? e)
            exact ⟨a, vs, k, j, rfl, rfl, e1, by rw [rr.len]; exact q2, h μ _ (sok_write s e ⟨_, upd_same, (rr.set j r3).ex x3⟩) x3⟩
        | _ => simp only [q] at h; exact h.elim
    | _ => exact h.elim
  | _ => exact h.elim

/-! ### methods of built-in types -/
abbrev OpM := D → List D → DSto → Option (D × DSto)
/-- xs.append(e) -/
def dApp (o e : Den) : Den := fun ρ st => (o ρ st).bind fun x st => match x with
  | .ref n => match st[n]? with
    | some (.lst _) => (e ρ st).bind fun y st => match st[n]? with
      | some (.lst xs) => if xs.length < sizeLine then .ok .non (st.set n (.lst (xs ++ [y]))) else .bad
      | _ => .bad
    | _ => .bad
  | _ => .bad
theorem px_app {o e : Expr} {od ed : Den} {apos cpos : Pos} (ho : PX X T W o od) (he : PX X T W e ed) (hs : starEach [e] X.env = (false, eval e X.env) :: starEach [] X.env := by rfl)
    (hbase : attributeBase o "append" X.env (eval o X.env) = eval o X.env := by rfl)
    (hfew : ((backTo cpos (starEach [e] X.env)).all (fun x => !x.1) && (backToKw cpos (keywordEach [] X.env)).all (fun x => x.1.isSome) && decide ([e].length + ([] : List Keyword).length + (if ([] : List Keyword).isEmpty then 0 else 1) < 30)) = true := by rfl)
    (hline : (apos.endLine == cpos.line) = true := by rfl) (hplain : (backTo cpos (starEach [] X.env)).any (·.1) = false := by rfl) : PX X T W (.Call (.Attribute o "append" apos) [e] [] cpos) (dApp od ed) :=
  pe_imp (pe_bm PySem.F.plainAttrs_list PySem.F.slot_list_append PySem.F.type_list_append mt_append ho (pa_cons he pa_nil hs) hbase hfew hline hs hplain) fun σ H Q ⟨μ, ρ, st, s, eo, h⟩ =>
    ⟨μ, ρ, st, s, eo, (Post.bind (R := RV T) h).mono fun v H1 ⟨μ1, x, st1, s1, x1, r1, h1⟩ => by
      cases x with
      | ref n =>
        dsimp only at h1
        cases q : st1[n]? with
        | none => simp only [q] at h1; exact h1.elim
        | some ob =>
          cases ob with
          | lst ys =>
            simp only [q] at h1
            obtain ⟨a, vs, rfl, e0, e1, rr⟩ := lst_of s1 r1 q
            refine ⟨.inl ⟨rfl, vs, SqL.of e1⟩, μ1, ρ, st1, s1, eo.ex x1, (Post.bind (R := RV T) h1).mono fun w H2 ⟨μ2, y, st2, s2, x2, r2, h2⟩ => ?_⟩
            cases q2 : st2[n]? with
            | none => simp only [q2] at h2; exact h2.elim
            | some ob2 =>
              cases ob2 with
              | lst xs =>
                simp only [q2] at h2
                by_cases hz : xs.length < sizeLine
                · rw [if_pos hz] at h2
                  obtain ⟨a', ws, ea, e3, e4, rr2⟩ := lst_of s2 (r1.ex x2) q2
                  cases ea
                  have x3 : Ex μ2 H2 μ2 (upd H2 a (.lst (ws ++ [w]))) := ex_write s2 (List.mem_of_getElem? e3)
                  exact ⟨a, ws, w, rfl, rfl, e4, by rw [rr2.len]; exact hz, h2 μ2 _ _ (sok_write s2 e3 ⟨_, upd_same, (rr2.app (RVs.one r2)).ex x3⟩) x3 (by simp [RV])⟩
                · rw [if_neg hz] at h2; exact h2.elim
              | _ => simp only [q2] at h2; exact h2.elim
          | _ => simp only [q] at h1; exact h1.elim
      | _ => exact h1.elim⟩
def strsD : List D → Option (List Str)
  | [] => some []
  | .str i :: r => (strsD r).map (i :: ·)
  | _ => none
theorem strsD_ok : ∀ {xs : List D} {vs : List V} {ns : List Str}, strsD xs = some ns → RVs T μ H xs vs → vs = ns.map V.str
  | [], vs, ns, h, r => by simp only [strsD, Option.some.injEq] at h; subst h; simpa [RVs] using r
  | .str i :: xs, vs, ns, h, r => by
    simp only [strsD, Option.map_eq_some_iff] at h
    obtain ⟨ms, h, rfl⟩ := h
    simp only [RVs, RV] at r
    obtain ⟨v, ws, rfl, rfl, r2⟩ := r
    rw [strsD_ok h r2]; rfl
/-- sep.join(xs) -/
def joinO (x y : D) (st : DSto) : Option (D × DSto) := match x with
  | .str a => ((itemsD y st).bind strsD).bind fun ys => if (ys.map (·.length)).sum + ys.length * a.length ≤ 16777216 then some (.str (Txt.join a ys), st) else none
  | _ => none
def dJoin (o e : Den) : Den := fun ρ st => (o ρ st).bind fun x st => match x with
  | .str a => (e ρ st).bind fun y st => ofO (joinO (.str a) y st)
  | _ => .bad
theorem px_join {o e : Expr} {od ed : Den} {apos : Pos} (hK : X.K = T.K) (ho : PX X T W o od) (he : PX X T W e ed) (hs : starEach [e] X.env = [(false, eval e X.env)] := by rfl) (hbase : attributeBase o "join" X.env (eval o X.env) = eval o X.env := by rfl) (hline : (apos.endLine == pos.line) = true := by rfl) :
    PX X T W (.Call (.Attribute o "join" apos) [e] [] pos) (dJoin od ed) :=
  pe_imp (pe_join ho he hs hbase hline) fun σ H Q ⟨μ, ρ, st, s, eo, h⟩ =>
    ⟨μ, ρ, st, s, eo, (Post.bind (R := RV T) h).mono fun v H1 ⟨μ1, x, st1, s1, x1, r1, h1⟩ => by
      cases x with
      | str a =>
        simp only [RV] at r1; subst r1
        refine ⟨⟨a, rfl⟩, μ1, ρ, st1, s1, eo.ex x1, (Post.bind (R := RV T) h1).mono fun w H2 ⟨μ2, y, st2, s2, x2, r2, h2⟩ => ?_⟩
        have h2 := PostO.of h2
        simp only [joinO] at h2
        cases q : itemsD y st2 with
        | none => simp only [q, Option.bind_none] at h2; exact h2.elim
        | some xs =>
          simp only [q, Option.bind_some] at h2
          cases q2 : strsD xs with
          | none => simp only [q2, Option.bind_none] at h2; exact h2.elim
          | some ys =>
            simp only [q2, Option.bind_some] at h2
            by_cases hz : (ys.map (·.length)).sum + ys.length * a.length ≤ 16777216
            · rw [if_pos hz] at h2
              obtain ⟨p, ws, rfl, rr, sq⟩ := items_of hK s2 r2 q
              rw [strsD_ok q2 rr] at sq
              exact ⟨a, p, ys, rfl, rfl, sq, hz, PostO.fin s2 (by simp [RV]) h2⟩
            · rw [if_neg hz] at h2; exact h2.elim
      | _ => exact h1.elim⟩

/-! ### isinstance -/
/-- what isinstance asks of a class -/
structure ClsI (K : PySem.W.Frag) (C : Addr) : Prop where
  ha : PySem.W.findIn K (.ref C) "__class__" = some (some (.builtin "object.__class__"))
  hn : PySem.W.specialIn K (.builtin "object.__class__") "__get__" = some (some (.builtin "getset_descriptor.__get__"))
  htk : PySem.W.takesIn K (.builtin "object.__class__") = some true
  hm : PySem.W.mroIn K C (.type "object") = some true
def tyName (x : D) (st : DSto) : Option String := match x with
  | .non => some "NoneType"
  | .bl _ => some "bool"
  | .int _ => some "int"
  | .str _ => some "str"
  | .tup _ => some "tuple"
  | .ref n => match st[n]? with
    | some (.lst _) => some "list"
    | some (.dct _) => some "dict"
    | _ => none
  | _ => none
/-- isinstance(e, bool): of flat data, tuples, lists, dicts -/
def dIsTy (ty : String) (d : Den) : Den := fun ρ st => (d ρ st).bind fun x st => match tyName x st with
  | some a => match kitB a ty with
    | some b => .ok (.bl b) st
    | none => .bad
  | none => .bad
theorem ty_of {d : D} {v : V} {a : String} (s : SOk T μ H st) (r : RV T μ H d v) (h : tyName d st = some a) (K : PySem.W.Frag) : TyX K H v (.type a) := by
  cases d with
  | non => simp only [RV] at r; subst r; cases h; exact .base .non
  | bl b => simp only [RV] at r; subst r; cases h; exact .base (.bl b)
  | int b => simp only [RV] at r; subst r; cases h; exact .base (.int b)
  | str b => simp only [RV] at r; subst r; cases h; exact .base (.str b)
  | tup b => simp only [RV] at r; obtain ⟨a, vs, rfl, e, _⟩ := r; cases h; exact .base (.tup e)
  | ref n =>
    simp only [tyName] at h
    cases q : st[n]? with
    | none => rw [q] at h; cases h
    | some o =>
      rw [q] at h
      simp only [RV] at r
      obtain ⟨a, rfl, e⟩ := r
      have ro := s.ro n o a q e
      cases o with
      | lst xs => cases h; obtain ⟨vs, e1, _⟩ := ro; exact .base (.lst e1)
      | dct xs => cases h; rcases ro with ⟨vs, e1, _⟩ | ⟨vs, e1, _⟩; exact .base (.dK e1); exact .base (.dT e1)
      | _ => cases h
  | scr ns => cases h
theorem px_isTy {e : Expr} {d : Den} {x : Str} {ty : String} {p p2 : Pos} (hm : X.mg "isinstance" = none) (hm2 : X.mg x = none) (he : PX X T W e d) (hv2 : bootBuiltins x = some (.type ty) := by decide +kernel) (hg2 : Gl X x := by rfl) (hn2 : x ≠ "__name__" := by decide) (hd2 : (x == ("__debug__" : Str)) = false := by decide)
    (hg : Gl X "isinstance" := by rfl) (hs : starEach [e, .Name x p2] X.env = (false, eval e X.env) :: starEach [.Name x p2] X.env := by rfl) (hs2 : starEach [.Name x p2] X.env = (false, eval (.Name x p2) X.env) :: starEach [] X.env := by rfl)
    (hpl : (backTo pos (starEach [.Name x p2] X.env)).any (·.1) = false := by rfl) : PX X T W (.Call (.Name "isinstance" p) [e, .Name x p2] [] pos) (dIsTy ty d) :=
  pe_imp (pe_callB call_isi hg hm (by decide +kernel) (pa_cons he (pa_cons (pe_bltn (v := .ty ty) hg2 hm2 hv2 rfl hn2 hd2) pa_nil hs2) hs) (by decide) (by decide) hs hpl) fun σ H Q ⟨μ, ρ, st, s, eo, h⟩ =>
    ⟨μ, ρ, st, s, eo, (Post.bind (R := RV T) h).mono fun v H1 ⟨μ1, y, st1, s1, x1, r1, h1⟩ => by
      cases q : tyName y st1 with
      | none => simp only [q] at h1; exact h1.elim
      | some a =>
        simp only [q] at h1
        cases q2 : kitB a ty with
        | none => simp only [q2] at h1; exact h1.elim
        | some b =>
          simp only [q2] at h1
          exact ⟨v, .ty ty, .type a, .type ty, b, rfl, .ty ty, ty_of s1 r1 q _, kit_ty q2, h1 μ1 _ H1 s1 .refl (by simp [RV])⟩⟩
/-- isinstance(e, C) of an instance of the class c -/
def dIsC (c : Nat) (b : Bool) (d : Den) : Den := fun ρ st => (d ρ st).bind fun x st => if isIns c x st = true then .ok (.bl b) st else .bad
theorem px_isC {e : Expr} {d : Den} {x : Str} {c : Nat} {C C2 : Addr} {b : Bool} {p p2 : Pos} (hF : Fits X T W) (hC : T.CT[c]? = some C) (hI : ClsI X.K C) (hkit : PySem.W.kitOne X.K (.ref C) (.ref C2) = some b) (hm : X.mg "isinstance" = none) (hm2 : X.mg x = some (.ref C2)) (he : PX X T W e d)
    (hg2 : Gl X x := by rfl) (hd2 : (x == ("__debug__" : Str)) = false := by decide)
    (hg : Gl X "isinstance" := by rfl) (hs : starEach [e, .Name x p2] X.env = (false, eval e X.env) :: starEach [.Name x p2] X.env := by rfl) (hs2 : starEach [.Name x p2] X.env = (false, eval (.Name x p2) X.env) :: starEach [] X.env := by rfl)
    (hpl : (backTo pos (starEach [.Name x p2] X.env)).any (·.1) = false := by rfl) : PX X T W (.Call (.Name "isinstance" p) [e, .Name x p2] [] pos) (dIsC c b d) :=
  pe_imp (pe_callB call_isi hg hm (by decide +kernel) (pa_cons he (pa_cons (pe_glob (v := .ref C2) hg2 hm2 rfl hd2) pa_nil hs2) hs) (by decide) (by decide) hs hpl) fun σ H Q ⟨μ, ρ, st, s, eo, h⟩ =>
    ⟨μ, ρ, st, s, eo, (Post.bind (R := RV T) h).mono fun v H1 ⟨μ1, y, st1, s1, x1, r1, h1⟩ => by
      by_cases hi : isIns c y st1 = true
      · rw [if_pos hi] at h1
        obtain ⟨n, fs, rfl, q⟩ := isIns_of (n := 0) hi
        obtain ⟨a, C', dx, vs, rfl, e1, g2, g3, g4, g5⟩ := ins_of s1 r1 q
        rw [hC] at g2; cases g2
        rw [← hF.K] at g3
        exact ⟨_, .ref C2, .ref C, .ref C2, b, rfl, .own C2, .base (.ins g4 g3 hI.ha hI.hn hI.htk hI.hm), hkit, h1 μ1 _ H1 s1 .refl (by simp [RV])⟩
      · rw [if_neg hi] at h1; exact h1.elim⟩
end
end FW

set_option Elab.async false
set_option linter.all false
set_option maxRecDepth 100000
set_option maxHeartbeats 4000000
namespace FW
open PySem PySem.Spec PyProof.Rows L2

def ofR : DRes D → Option (D × DSto)
  | .ok d st => some (d, st)
  | _ => none
section
variable {X : Cx} {T : Tb} {μ : List Addr} {H : Hp} {st : DSto} {k : Nat} {f C : Addr} {G : FnD} {pins : List (Addr × Obj)} {σ : L2.St} {s : Shared}
/-- a def of one's own run inside an operator: it raises nothing -/
theorem run_own {A : Around} {Q : VK} {E' : Value → Shared → Prop} {us : List Value} {vs : List V} {ds : List D} (F : FnR X.prog X.w X.K X.mg X.base (L2.CX X.prog X.w) k f (spR T G)) (hr : Room k A) (hA : A.frames = X.A.frames) (I : Inv X pins σ H s) (r : Vals vs us)
    (so : SOk T μ H st) (rv : RVs T μ H ds vs) (h : PostO T μ H (ofR (G ds st)) Q) : wpAny (model X.prog X.w) A (call (.ref f) us) (EP X pins σ Q) E' s := by
  have e0 : Env0 X.prog X.w X.K X.mg X.base A X.stack s H := ⟨hA.trans I.ok.frames, I.ok.mod, I.bs, Nat.le_trans I.ok.bsz I.sz, I.stack, I.stkFree, I.hok, I.bare⟩
  have hsp : spR T G vs H Q E0 := by
    refine ⟨μ, ds, st, so, rv, ?_⟩
    revert h
    generalize G ds st = R
    intro h
    cases R with
    | ok d st' => exact h
    | exc c fs st' => exact h.elim
    | bad => exact h.elim
  refine wpAny_call (codeAny_mono (F A X.stack s H us vs Q E0 hr e0 r hsp) fun r s' hq => ?_)
  cases r with
  | error e =>
    obtain ⟨_, _, _, _, _, _, _, _, _, _, _, _, z⟩ := hq
    exact z.elim
  | ok fl =>
    cases fl with
    | ret u => exact I.after hq
    | next => exact False.elim hq
    | brk => exact False.elim hq
    | cont => exact False.elim hq
/-- an instance of the store, for OpenK's rules -/
theorem inst_of {a dx : Addr} {vs : List (Str × V)} (I : Inv X pins σ H s) (e : H a = some (.ins C dx vs)) : ∃ od, PySem.W.InstAt s.heap a (PySem.W.instObj C dx) C (some od) := by
  obtain ⟨mA, O, _⟩ := ins_get I.hok e
  obtain ⟨od, J, _⟩ := O.look
  exact ⟨od, J⟩
def own2 (c : Nat) (G : FnD) : OpD := fun x y st => if isIns c x st = true ∧ isIns c y st = true then ofR (G [x, y] st) else none
/-- a (op) b by the class's own method, both of the class c -/
theorem ox_own2 {c : Nat} {op : Operator} {m : Str} (hK : X.K = T.K) (hC : T.CT[c]? = some C) (hm : Meth X.K C m f) (hd : PySem.dunder op.info.2 = m) (hc : PySem.W.selfFirst X.K C = true)
    (F : FnR X.prog X.w X.K X.mg X.base (L2.CX X.prog X.w) k f (spR T G)) (hr : Room k X.A) : OpX X T (binaryOp op) (own2 c G) := fun pins s σ H x y v u Q I rx ry ⟨μ, d, e, st, so, r1, r2, h⟩ => by
  unfold own2 at h
  by_cases hi : isIns c d st = true ∧ isIns c e st = true
  · rw [if_pos hi] at h
    obtain ⟨n1, fs1, rfl, q1⟩ := isIns_of (n := 0) hi.1
    obtain ⟨n2, fs2, rfl, q2⟩ := isIns_of (n := 0) hi.2
    obtain ⟨a, C1, dx1, vs1, rfl, e1, g2, g3, g4, g5⟩ := ins_of so r1 q1
    obtain ⟨b, C2, dx2, vs2, rfl, e2, k2, k3, k4, k5⟩ := ins_of so r2 q2
    rw [hC] at g2 k2; cases g2; cases k2
    obtain rfl : v = Value.ref a := rx
    obtain rfl : u = Value.ref b := ry
    obtain ⟨od1, J1⟩ := inst_of I g4
    obtain ⟨od2, J2⟩ := inst_of I k4
    obtain ⟨mm, Fr0⟩ := I.fr
    subst hd
    refine PySem.W.binop_K Fr0 I.mod.kin J1 J2.type hc hm.at_ hm.fn ?_
    refine thn (run_own (us := [.ref a, .ref b]) (vs := [.ref a, .ref b]) (ds := [.ref n1, .ref n2]) F hr rfl I (.cons rfl (.cons rfl .nil)) so (by simp only [RVs]; exact ⟨_, _, rfl, r1, _, _, rfl, r2, rfl⟩) h) fun r s' hh => ?_
    obtain ⟨z, H', I', rz, q⟩ := hh
    exact SlX.cmpback rz ⟨z, H', I', rz, q⟩
  · rw [if_neg hi] at h; exact h.elim
/-- .. a comparison -/
theorem ox_ownC {c : Nat} {op : CmpOp} {m : Str} (hK : X.K = T.K) (hC : T.CT[c]? = some C) (hm : Meth X.K C m f) (hd : (cmpInfo op).2.1 = m) (hn : PySem.W.notFirst X.K C (.ref C) = true) (hof : ∀ {M : Model} {A : Around} {E : Value → Shared → Prop} {s : Shared} {a b : Value} {Q : Value → Shared → Prop}, wpAny M A (richCompare op a b) Q E s → wpAny M A (compareOp op a b) Q E s)
    (F : FnR X.prog X.w X.K X.mg X.base (L2.CX X.prog X.w) k f (spR T G)) (hr : Room k X.A) : OpX X T (compareOp op) (own2 c G) := fun pins s σ H x y v u Q I rx ry ⟨μ, d, e, st, so, r1, r2, h⟩ => by
  unfold own2 at h
  by_cases hi : isIns c d st = true ∧ isIns c e st = true
  · rw [if_pos hi] at h
    obtain ⟨n1, fs1, rfl, q1⟩ := isIns_of (n := 0) hi.1
    obtain ⟨n2, fs2, rfl, q2⟩ := isIns_of (n := 0) hi.2
    obtain ⟨a, C1, dx1, vs1, rfl, e1, g2, g3, g4, g5⟩ := ins_of so r1 q1
    obtain ⟨b, C2, dx2, vs2, rfl, e2, k2, k3, k4, k5⟩ := ins_of so r2 q2
    rw [hC] at g2 k2; cases g2; cases k2
    obtain rfl : v = Value.ref a := rx
    obtain rfl : u = Value.ref b := ry
    obtain ⟨od1, J1⟩ := inst_of I g4
    obtain ⟨od2, J2⟩ := inst_of I k4
    obtain ⟨mm, Fr0⟩ := I.fr
    subst hd
    refine hof (PySem.W.cmp_K hr.units0 Fr0 I.mod.kin J1 J2.type hn hm.at_ hm.fn ?_)
    refine thn (run_own (us := [.ref a, .ref b]) (vs := [.ref a, .ref b]) (ds := [.ref n1, .ref n2]) F hr rfl I (.cons rfl (.cons rfl .nil)) so (by simp only [RVs]; exact ⟨_, _, rfl, r1, _, _, rfl, r2, rfl⟩) h) fun r s' hh => ?_
    obtain ⟨z, H', I', rz, q⟩ := hh
    exact SlX.cmpback rz ⟨z, H', I', rz, q⟩
  · rw [if_neg hi] at h; exact h.elim
/-- a (op) n, n an int -/
def ownI (c : Nat) (G : FnD) : OpD := fun x y st => match y with
  | .int _ => if isIns c x st = true then ofR (G [x, y] st) else none
  | _ => none
theorem ox_ownI {c : Nat} {op : Operator} {m : Str} {fo ro rc : Option Value} (hK : X.K = T.K) (hC : T.CT[c]? = some C) (hm : Meth X.K C m f) (hd : PySem.dunder op.info.2 = m) (hc : PySem.W.selfFirst X.K C = true)
    (hr1 : PySem.W.findIn X.K (.ref C) (dunderR op.info.2) = some rc) (hp : rc = none ∨ ∃ g : Addr, rc = some (.ref g)) (h1 : PySem.W.findIn X.K (.type "int") (PySem.dunder op.info.2) = some fo) (h2 : PySem.W.findIn X.K (.type "int") (dunderR op.info.2) = some ro) (hsub : PySem.W.subIn X.K (.type "int") (.ref C) = some false)
    (F : FnR X.prog X.w X.K X.mg X.base (L2.CX X.prog X.w) k f (spR T G)) (hr : Room k X.A) : OpX X T (binaryOp op) (ownI c G) := fun pins s σ H x y v u Q I rx ry ⟨μ, d, e, st, so, r1, r2, h⟩ => by
  unfold ownI at h
  cases e with
  | int j =>
    dsimp only at h
    by_cases hi : isIns c d st = true
    · rw [if_pos hi] at h
      obtain ⟨n1, fs1, rfl, q1⟩ := isIns_of (n := 0) hi
      obtain ⟨a, C1, dx1, vs1, rfl, e1, g2, g3, g4, g5⟩ := ins_of so r1 q1
      rw [hC] at g2; cases g2
      obtain rfl : v = Value.ref a := rx
      have r2' := r2
      simp only [RV] at r2'
      subst r2'
      obtain ⟨t, rfl⟩ := id ry
      obtain ⟨od1, J1⟩ := inst_of I g4
      obtain ⟨mm, Fr0⟩ := I.fr
      subst hd
      refine PySem.W.ksp_binT (T := "int") Fr0 I.mod.kin J1 rfl hc hm.at_ hm.fn hr1 hp h1 h2 hsub ?_
      refine thn (run_own (us := [.ref a, .int j t]) (vs := [.ref a, .int j]) (ds := [.ref n1, .int j]) F hr rfl I (.cons rfl (.cons ⟨t, rfl⟩ .nil)) so (by simp only [RVs]; exact ⟨_, _, rfl, r1, _, _, rfl, r2, rfl⟩) h) fun r s' hh => ?_
      obtain ⟨z, H', I', rz, q⟩ := hh
      exact SlX.cmpback rz ⟨z, H', I', rz, q⟩
    · rw [if_neg hi] at h; exact h.elim
  | _ => exact h.elim
/-- own first, else the base -/
def orO (c : Nat) (own base : OpD) : OpD := fun x y st => if isIns c x st = true then own x y st else base x y st
theorem ox_or {c : Nat} {F : Value → Value → Sem Value} {own base : OpD} (h1 : OpX X T F own) (h2 : OpX X T F base) : OpX X T F (orO c own base) := fun pins s σ H x y v u Q I rx ry ⟨μ, d, e, st, so, r1, r2, h⟩ => by
  unfold orO at h
  by_cases hi : isIns c d st = true
  · rw [if_pos hi] at h; exact h1 pins s σ H x y v u Q I rx ry ⟨μ, d, e, st, so, r1, r2, h⟩
  · rw [if_neg hi] at h; exact h2 pins s σ H x y v u Q I rx ry ⟨μ, d, e, st, so, r1, r2, h⟩
/-- .. by the right operand -/
def orR (c : Nat) (own base : OpD) : OpD := fun x y st => if isIns c y st = true then own x y st else base x y st
theorem ox_orR {c : Nat} {F : Value → Value → Sem Value} {own base : OpD} (h1 : OpX X T F own) (h2 : OpX X T F base) : OpX X T F (orR c own base) := fun pins s σ H x y v u Q I rx ry ⟨μ, d, e, st, so, r1, r2, h⟩ => by
  unfold orR at h
  by_cases hi : isIns c e st = true
  · rw [if_pos hi] at h; exact h1 pins s σ H x y v u Q I rx ry ⟨μ, d, e, st, so, r1, r2, h⟩
  · rw [if_neg hi] at h; exact h2 pins s σ H x y v u Q I rx ry ⟨μ, d, e, st, so, r1, r2, h⟩
/-- x in o, o of the class c: a bool comes back -/
def ownIn (c : Nat) (G : FnD) : OpD := fun x y st => if isIns c y st = true then (match ofR (G [y, x] st) with
  | some (.bl b, st') => some (.bl b, st')
  | _ => none) else none
theorem ox_ownIn {c : Nat} (hK : X.K = T.K) (hC : T.CT[c]? = some C) (hm : Meth X.K C "__contains__" f) (F : FnR X.prog X.w X.K X.mg X.base (L2.CX X.prog X.w) k f (spR T G)) (hr : Room k X.A) : OpX X T (compareOp .In) (ownIn c G) := fun pins s σ H x y v u Q I rx ry ⟨μ, d, e, st, so, r1, r2, h⟩ => by
  unfold ownIn at h
  by_cases hi : isIns c e st = true
  · rw [if_pos hi] at h
    obtain ⟨n1, fs1, rfl, q1⟩ := isIns_of (n := 0) hi
    obtain ⟨a, C1, dx1, vs1, rfl, e1, g2, g3, g4, g5⟩ := ins_of so r2 q1
    rw [hC] at g2; cases g2
    obtain rfl : u = Value.ref a := ry
    obtain ⟨od1, J1⟩ := inst_of I g4
    obtain ⟨mm, Fr0⟩ := I.fr
    refine PySem.W.in_K Fr0 I.mod.kin J1 hm.at_ hm.fn ?_
    have h' : PostO T μ H (ofR (G [.ref n1, d] st)) (fun z H' => ∃ b, z = .bl b ∧ Q (.bl b) H') := by
      revert h
      generalize G [.ref n1, d] st = R
      intro h
      cases R with
      | ok z st' =>
        cases z with
        | bl b => exact fun μ' v H' s x r => by simp only [RV] at r; exact ⟨b, r, h μ' _ H' s x (by simp [RV])⟩
        | _ => exact h.elim
      | exc c fs st' => exact h.elim
      | bad => exact h.elim
    refine thn (run_own (us := [.ref a, v]) (vs := [.ref a, x]) (ds := [.ref n1, d]) F hr rfl I (.cons rfl (.cons rx .nil)) so (by simp only [RVs]; exact ⟨_, _, rfl, r2, _, _, rfl, r1, rfl⟩) h') fun r s' hh => ?_
    obtain ⟨z, H', I', rz, b, rfl, q⟩ := hh
    obtain rfl : r = Value.bool b := rz
    exact wpAny_truthy_bool ⟨.bl b, H', I', rfl, q⟩
  · rw [if_neg hi] at h; exact h.elim
/-- len(o) -/
def ownLen (c : Nat) (G : FnD) : OpL := fun ds st => match ds with
  | [x] => if isIns c x st = true then (match ofR (G [x] st) with
    | some (.int n, st') => if 0 ≤ n ∧ n < 2 ^ 63 then some (.int n, st') else none
    | _ => none) else none
  | _ => none
theorem cx_ownLen {c : Nat} (hK : X.K = T.K) (hC : T.CT[c]? = some C) (hm : Meth X.K C "__len__" f) (F : FnR X.prog X.w X.K X.mg X.base (L2.CX X.prog X.w) k f (spR T G)) (hr : Room (k + 1) X.A) : CallX X T (.builtin "len") (ownLen c G) := fun pins s σ H xs us Q I r ⟨μ, ds, st, so, rv, h⟩ => by
  unfold ownLen at h
  match ds, h with
  | [d], h =>
    obtain ⟨y, rfl, r1⟩ := rvs1 rv
    dsimp only at h
    by_cases hi : isIns c d st = true
    · rw [if_pos hi] at h
      obtain ⟨n1, fs1, rfl, q1⟩ := isIns_of (n := 0) hi
      obtain ⟨a, C1, dx1, vs1, rfl, e1, g2, g3, g4, g5⟩ := ins_of so r1 q1
      rw [hC] at g2; cases g2
      obtain ⟨u, rfl, ru⟩ := vals1 r
      obtain rfl : u = Value.ref a := ru
      obtain ⟨od1, J1⟩ := inst_of I g4
      obtain ⟨mm, Fr0⟩ := I.fr
      refine PySem.W.len_K Fr0 I.mod.kin J1 hm.at_ hm.fn ?_
      have h' : PostO T μ H (ofR (G [.ref n1] st)) (fun z H' => ∃ n : Int, z = .int n ∧ (0 ≤ n ∧ n < 2 ^ 63) ∧ Q (.int n) H') := by
        revert h
        generalize G [.ref n1] st = R
        intro h
        cases R with
        | ok z st' =>
          cases z with
          | int n =>
            simp only [ofR] at h
            by_cases hz : 0 ≤ n ∧ n < 2 ^ 63
            · rw [if_pos hz] at h
              exact fun μ' v H' s x r => by simp only [RV] at r; exact ⟨n, r, hz, h μ' _ H' s x (by simp [RV])⟩
            · rw [if_neg hz] at h; exact h.elim
          | _ => exact h.elim
        | exc c fs st' => exact h.elim
        | bad => exact h.elim
      refine thn (run_own (A := X.A.in1) (us := [.ref a]) (vs := [.ref a]) (ds := [.ref n1]) F hr.in1 rfl I (.cons rfl .nil) so (RVs.one r1) h') fun r s' hh => ?_
      obtain ⟨z, H', I', rz, n, rfl, hz, q⟩ := hh
      obtain ⟨t, rfl⟩ := rz
      exact ⟨hz, .int n, H', I'.tok _, ⟨_, rfl⟩, q⟩
    · rw [if_neg hi] at h; exact h.elim
/-- str(o) -/
def ownStr (c : Nat) (G : FnD) : OpL := fun ds st => match ds with
  | [x] => if isIns c x st = true then (match ofR (G [x] st) with
    | some (.str n, st') => some (.str n, st')
    | _ => none) else none
  | _ => none
theorem cx_ownStr {c : Nat} (hK : X.K = T.K) (hC : T.CT[c]? = some C) (hm : Meth X.K C "__str__" f) (F : FnR X.prog X.w X.K X.mg X.base (L2.CX X.prog X.w) k f (spR T G)) (hr : Room (k + 2) X.A) : CallX X T (.type "str") (ownStr c G) := fun pins s σ H xs us Q I r ⟨μ, ds, st, so, rv, h⟩ => by
  unfold ownStr at h
  match ds, h with
  | [d], h =>
    obtain ⟨y, rfl, r1⟩ := rvs1 rv
    dsimp only at h
    by_cases hi : isIns c d st = true
    · rw [if_pos hi] at h
      obtain ⟨n1, fs1, rfl, q1⟩ := isIns_of (n := 0) hi
      obtain ⟨a, C1, dx1, vs1, rfl, e1, g2, g3, g4, g5⟩ := ins_of so r1 q1
      rw [hC] at g2; cases g2
      obtain ⟨u, rfl, ru⟩ := vals1 r
      obtain rfl : u = Value.ref a := ru
      obtain ⟨od1, J1⟩ := inst_of I g4
      have hr2 : Room k X.A.in1.in1 := hr.in1.in1
      refine PySem.W.kso_call hr2.units0 I.kIn J1 hm.at_ hm.fn ?_
      have h' : PostO T μ H (ofR (G [.ref n1] st)) (fun z H' => ∃ n : Str, z = .str n ∧ Q (.str n) H') := by
        revert h
        generalize G [.ref n1] st = R
        intro h
        cases R with
        | ok z st' =>
          cases z with
          | str n => exact fun μ' v H' s x r => by simp only [RV] at r; exact ⟨n, r, h μ' _ H' s x (by simp [RV])⟩
          | _ => exact h.elim
        | exc c fs st' => exact h.elim
        | bad => exact h.elim
      refine thn (run_own (A := X.A.in1.in1) (us := [.ref a]) (vs := [.ref a]) (ds := [.ref n1]) F hr2 rfl I (.cons rfl .nil) so (RVs.one r1) h') fun r s' hh => ?_
      obtain ⟨z, H', I', rz, n, rfl, q⟩ := hh
      obtain ⟨t, rfl⟩ := rz
      exact ⟨.str n, H', I', ⟨_, rfl⟩, q⟩
    · rw [if_neg hi] at h; exact h.elim
def orL (c : Nat) (own base : OpL) : OpL := fun ds st => match ds with
  | [x] => if isIns c x st = true then own ds st else base ds st
  | _ => base ds st
theorem cx_or {c : Nat} {f : Value} {own base : OpL} (h1 : CallX X T f own) (h2 : CallX X T f base) : CallX X T f (orL c own base) := fun pins s σ H xs us Q I r ⟨μ, ds, st, so, rv, h⟩ => by
  unfold orL at h
  split at h
  · split at h
    · exact h1 pins s σ H xs us Q I r ⟨μ, _, st, so, rv, h⟩
    · exact h2 pins s σ H xs us Q I r ⟨μ, _, st, so, rv, h⟩
  · exact h2 pins s σ H xs us Q I r ⟨μ, _, st, so, rv, h⟩
end
end FW

set_option Elab.async false
set_option linter.all false
set_option maxRecDepth 100000
set_option maxHeartbeats 4000000
namespace FW
open PySem PySem.Spec PyProof.Rows L2

/-- what a method that hands back iter(self.f) does, told of the state that it is called in -/
def IterFn (P : Program) (w : World) (K : PySem.W.Frag) (mg : Str → Option Value) (base : Heap) (k : Nat) (f C : Addr) (fld : Str) : Prop :=
  ∀ (A : Around) (outer : List Env) (s : Shared) (H : Hp) (a l dx : Addr) (vs : List (Str × V)) (zs : List V) (Q : VK), Room k A → Env0 P w K mg base A outer s H → H a = some (.ins C dx vs) → Cls K C → NoAttr K C fld →
    vs.lookup fld = some (.ref l) → SqL K H l zs → (∀ it, H it = none → s.heap.objs.size ≤ it → Q (.ref it) (upd H it (ItO l it 0))) →
    codeAny (model P w) A (.call (.ref f) ⟨[.ref a], []⟩) (CR CX0 outer P w H s Q E0) s
section
variable {P : Program} {w : World} {K : PySem.W.Frag} {mg : Str → Option Value} {base : Heap} {k : Nat} {f C : Addr} {fd : FuncData} {x qual fld : Str} {st : Stmt} {p1 p2 p3 p4 p5 : Pos}
theorem iterFn_of (F : Fun K x qual st f fd) (S : FnScope ["self"] ["self"] (defScope st)) (hb : Binds K fd ["self"] []) (hm : mg "iter" = none) (hg : (defScope st).names.lookup ("iter" : Str) = some .globalImplicit)
    (hbd : defBody st = [.Return (some (.Call (.Name "iter" p1) [.Attribute (.Name "self" p2) fld p3] [] p4)) p5]) : IterFn P w K mg base (k + 1) f C fld := by
  intro A outer s H a l dx vs zs Q hr e0 ha c na hl sq hq
  obtain ⟨oc, od, kV, doc, pm, an, cdv, ct, osl, rfl, lk, hcd⟩ := F.ex
  have KX : K.In s.heap := e0.mod.kin.keeps fun b o z => (e0.bs b o z).1
  have hpar := S.par "self" (List.Mem.head _)
  refine codeAny_call_function hr.depth (KX _ _ lk) rfl S.co S.gen rfl (PySem.W.codeRec_of KX hcd) (hb s [.ref a] KX rfl _ _ _ _ ?_)
  refine wpAny_newFunctionEnv_cells S.kind (fun y hy => ?_) fun env he s1 z => ?_
  · obtain rfl : y = (("self" : Str), Value.ref a) := by simpa using hy
    exact hpar.imp id fun q => ⟨q, PySem.W.cellsFrom_some _ _ _ (.inl q)⟩
  subst he
  refine ⟨(e0.mod.nolimit.keeps fun b o z => (e0.bs b o z).1).keeps z.toInCall.keep, codeAny_func ?_⟩
  have I : Inv (cxOf CX0 P w K mg base ["self"] qual (defScope st) f cdv A outer s H E0) [] (start ["self"] [.ref a]) H s1 := inv_start (vs := [.ref a]) (us := [.ref a]) S hr.hd e0 rfl (.cons rfl .nil) z
  have body : PSs (cxOf CX0 P w K mg base ["self"] qual (defScope st) f cdv A outer s H E0) (defBody st) (tRet (tCB (ItX.rIterN K s.heap.objs.size) (tCons (tFld K (tVar 0) fld) tNil))) := by
    rw [hbd]
    exact pss_one (ps_ret (pe_callB ItX.call_iterN hg hm (by decide +kernel) (pa_cons (pe_fld (pe_var (i := 0) rfl (hpar.imp id .inl)) rfl) pa_nil) (by decide) (by decide)))
  refine wpAny_mono (body.run [] s1 _ H { nx := fun _ H' => Q .non H', rt := Q } I ⟨.ref a, rfl, a, C, dx, vs, .ref l, rfl, ha, c, na, hl, l, zs, rfl, sq, hq⟩) (fun fl s' hs => ?_) fun e s' hs => hs
  have fin : ∀ {σ' : L2.St} {H' : Hp} {v : V} {u : Value}, Inv (cxOf CX0 P w K mg base ["self"] qual (defScope st) f cdv A outer s H E0) [] σ' H' s' → RelV v u → Q v H' → CE outer P w H s Q u s' := fun {σ' H' v u} J rv q => ⟨v, H', J.os, J.bare, J.base, J.hok, rv, q⟩
  cases fl with
  | ret u => obtain ⟨v, σ', H', J, rv, q⟩ := hs; exact fin J rv q
  | next => obtain ⟨σ', H', J, q⟩ := hs; exact fin (v := V.non) (u := Value.none) J rfl q
  | brk => obtain ⟨_, _, _, q⟩ := hs; exact q.elim
  | cont => obtain ⟨_, _, _, q⟩ := hs; exact q.elim
end
/-- an object whose __iter__ hands back iter(self.f), f a list -/
def dIOwn (c i : Nat) (d : Den) : DenI := fun ρ st => (d ρ st).bind fun x st => if isIns c x st = true then (match fldD i x st with
  | .ok (.ref m) st => match st[m]? with
    | some (.lst xs) => .ok (xs, [(m, .lst xs)]) st
    | _ => .bad
  | _ => .bad) else .bad
section
variable {X : Cx} {T : Tb} {W : WX} {tg e : Expr} {d : Den} {k : Nat} {f C : Addr} {fld : Str}
theorem pix_own {c i : Nat} (hF : Fits X T W) (hC : T.CT[c]? = some C) (hn : T.FT[i]? = some fld) (hm : Meth X.K C "__iter__" f) (F : IterFn X.prog X.w X.K X.mg X.base k f C fld) (hr : Room k X.A) (h : PX X T W e d) : PIX X T W tg e (dIOwn c i d) := by
  refine ⟨fun pins s σ H R I ⟨μ, ρ, st, so, eo, h0⟩ => ?_⟩
  refine thn (h.run pins s σ H _ I ⟨μ, ρ, st, so, eo, Post.bind (R := RV T) h0⟩) fun v s1 ⟨y, H1, I1, ry, μ1, x, st1, s1', x1, r1, h1⟩ => ?_
  by_cases hi : isIns c x st1 = true
  · rw [if_pos hi] at h1
    obtain ⟨n, fs, rfl, q⟩ := isIns_of (n := 0) hi
    obtain ⟨a, C1, dx, vs, rfl, e1, g2, g3, g4, g5⟩ := ins_of s1' r1 q
    rw [hC] at g2; cases g2
    simp only [fldD, q] at h1
    cases qf : getN i fs with
    | none => simp only [qf] at h1; exact h1.elim
    | some z =>
      simp only [qf] at h1
      cases z with
      | ref m =>
        simp only at h1
        cases qm : st1[m]? with
        | none => simp only [qm] at h1; exact h1.elim
        | some o =>
          cases o with
          | lst xs =>
            simp only [qm] at h1
            obtain ⟨w, l1, rw', na⟩ := fs_get g5 hn qf
            obtain ⟨l, zs, rfl, em, el, rr⟩ := lst_of s1' rw' qm
            rw [← hF.K] at g3 na
            obtain rfl : v = Value.ref a := ry
            obtain ⟨od1, J1⟩ := inst_of I1 g4
            obtain ⟨mm, Fr0⟩ := I1.fr
            refine PySem.W.owit_iter Fr0 I1.mod.kin J1 hm.at_ hm.fn ?_
            refine wpAny_call (codeAny_mono (F X.A X.stack s1 H1 a l dx vs zs (fun v H' => ∃ it, v = .ref it ∧ s1.heap.objs.size ≤ it ∧ H1 it = none ∧ H' = upd H1 it (ItO l it 0)) hr I1.env0 g4 g3 na l1 (SqL.of el) fun it h1 h2 => ⟨it, rfl, h2, h1, rfl⟩) fun r s' hq => ?_)
            cases r with
            | error er => exact False.elim hq
            | ok fl =>
              cases fl with
              | ret u =>
                obtain ⟨v', H', I2, rv, it, rfl, hsz, hnone, rfl⟩ := I1.after hq
                obtain rfl : u = Value.ref it := rv
                have hit : (upd H1 it (ItO l it 0)) it = some (ItO l it 0) := upd_same
                have eo' := itO_get I2 hit
                have stt : s'.heap.IsListIter it l 0 := ⟨_, eo', rfl, rfl⟩
                show PySem.W.OwitIt _ _ _ _ _ _
                unfold PySem.W.OwitIt
                refine wpAny_specialOf (name := Str.ofString "__next__") (T := "list_iterator") ⟨_, eo', rfl⟩ slot_listiter_next.lookup ?_
                have hd := ItX.dropH_upd (o := ItO l it 0) hnone
                have I3 := ItX.inv_drop (φ := fun h => h.get? it = some (GNX.itObj l 0)) I2 hit
                have hf := ItX.inv_fp I2 hit (Nat.le_trans I1.sz hsz)
                rw [hd] at I3 hf
                refine ⟨it, [it], _, Itl X.K l, H1, rfl, I3, turn_list l it, stt, fun b hb => ?_, h1 μ1 _ H1 s1' .refl ?_⟩
                · rw [List.mem_singleton.mp hb]; exact hf
                · rw [hF.K]
                  exact iterOk_lst fun μ2 st2 H2 x2 s2 k2 => sqL_of (s2.ro m _ l (chk_one k2) (x2.get em))
              | next => exact False.elim hq
              | brk => exact False.elim hq
              | cont => exact False.elim hq
          | _ => simp only [qm] at h1; exact h1.elim
      | _ => simp only at h1; exact h1.elim
  · rw [if_neg hi] at h1; exact h1.elim
end
end FW

set_option Elab.async false
set_option linter.all false
set_option maxRecDepth 100000
set_option maxHeartbeats 4000000
namespace PySem.W
open PySem PySem.Calls PyProof.Rows Builtin
theorem fw_intmul {prog : Program} {w : World} {A : Around} {E : Value → Shared → Prop} {s : Shared} {n : Int} {t : Tok} {b C : Addr} {ox : Obj} {od : Option Obj} {Q : Value → Shared → Prop} (J : InstAt s.heap b ox C od) (hd : ox.data = .plain)
    (L : Looks (model prog w) s.heap (isSubtype (.ref C) (.type "int")) false) (h : Q .notImplemented s) : wpAny (model prog w) A (call (.builtin "int.__mul__") [.int n t, .ref b]) Q E s := by
  refine wpAny_call (codeAny_call_builtin F.slot_int_mul.plain F.entry_int_mul (F.slot_int_mul.check _ _ _ _ _ _ _ _ (typeIs_int s n t) (F.args_int_mul_2 _ _) ?_))
  have J0 := J
  have hat := J.at_
  have L1 : Looks (model prog w) s.heap (typeOf (.ref b)) (.ref C) := J.type
  obtain ⟨hp, g, d, tk, os⟩ := s
  dsimp only at hat L1 L
  unfold Builtin.«int.__mul__» Builtin.Int.intBinary
  repeat lk
  rw [hd]
  repeat lk
  exact h
theorem fw_refl {prog : Program} {w : World} {A : Around} {E : Value → Shared → Prop} {s : Shared} {K : Frag} {n : Int} {t : Tok} {b C f g2 : Addr} {ox : Obj} {od : Option Obj} {Q : Value → Shared → Prop} (X : K.In s.heap) (J : InstAt s.heap b ox C od) (hd : ox.data = .plain)
    (hc : selfFirst K C = true) (hm : findIn K (.ref C) (PySem.dunder "mul") = some (some (.ref g2))) (hs : findIn K (.ref C) (dunderR "mul") = some (some (.ref f))) (hf : isFn K (.ref f) = true) (hsub : subIn K (.ref C) (.type "int") = some false)
    (h : wpAny (model prog w) A (call (.ref f) [.ref b, .int n t]) (CmpBack Q) E s) : wpAny (model prog w) A (binaryOp .Mult (.int n t) (.ref b)) Q E s := by
  obtain ⟨cd, rest, hcd, hmro⟩ := ksp_first hc
  have one := ksp_try X J hs hf h
  have Lsub : Looks (model prog w) s.heap (isSubtype (.ref C) (.type "int")) false := looks_subIn X hsub
  have nope : wpAny (model prog w) A (tryMethod (.int n t) (PySem.dunder "mul") (.ref b)) (fun r s' => r = none ∧ s' = s) E s := by
    unfold tryMethod
    refine wpAny_bind (wpAny_callSpecial?_slot (typeIs_int s n t) F.slot_int_mul (fw_intmul J hd Lsub ?_))
    exact wpAny_pure ⟨rfl, rfl⟩
  obtain ⟨hh, g, d, tt, os⟩ := s
  have L1 : Looks (model prog w) hh (typeOf (.int n t)) (.type "int") := Looks.of_pure rfl
  have L2 : Looks (model prog w) hh (typeOf (.ref b)) (.ref C) := J.type
  have L3 : Looks (model prog w) hh (fillsNumberSlot (.type "int") "mul") true := Looks.of_pure F.fills_int_mul
  have L4 : Looks (model prog w) hh (fillsNumberSlot (.ref C) "mul") true := fills_K X hcd hmro hm
  have L5 : Looks (model prog w) hh (numberSlotInPython (.type "int") "mul") false := Looks.of_pure rfl
  simp only [binaryOp, Operator.info]
  refine wpAny_holding (wpAny_bind ?_)
  unfold binaryOp1
  have hne : (Value.type "int" == Value.ref C) = false := Bool.eq_false_iff.mpr fun q => by cases beq_iff_eq.mp q
  refine wpAny_bind (L1.at (wpAny_bind (L2.at (wpAny_bind (L3.at ?_)))))
  simp only [hne, Bool.false_eq_true, if_false]
  ksp_lk
  refine wpAny_mono nope (fun r s' hr => ?_) fun _ _ e => e
  obtain ⟨rfl, rfl⟩ := hr
  ksp_lk
  refine wpAny_mono one (fun r s' hr => ?_) fun _ _ e => e
  obtain ⟨v, rfl, hq⟩ := hr
  ksp_lk
  exact hq
end PySem.W

set_option Elab.async false
set_option linter.all false
set_option maxRecDepth 100000
set_option maxHeartbeats 4000000
namespace FW
open PySem PySem.Spec PyProof.Rows L2

/-! ### the contexts of a def's body -/
section
variable {P : Program} {w : World} {T : Tb} {mg : Str → Option Value} {base : Heap} {N : List Str} {qual : Str} {sc : Scope} {f : Addr} {cdv : Value} {A : Around} {outer : List Env} {s : Shared} {H : Hp} {E : XK}
theorem fits_body : Fits (cxOf (L2.CX P w) P w T.K mg base N qual sc f cdv A outer s H E) T (WF E) := ⟨rfl, takes_of rfl rfl rfl rfl⟩
theorem own_body : PassesOwn (model P w) (cxOf (L2.CX P w) P w T.K mg base N qual sc f cdv A outer s H E).A (cxOf (L2.CX P w) P w T.K mg base N qual sc f cdv A outer s H E).env (cxOf (L2.CX P w) P w T.K mg base N qual sc f cdv A outer s H E).xe := passes_of (E₁ := fun e' s'' => L2.CX P w outer H s E e' s'') rfl
theorem fits_blk {X : Cx} {scope : Scope} {cenv : Env} {fp : List Addr} (h : X.K = T.K) : Fits (X.blk s H scope cenv fp) T WN := ⟨h, takes0⟩
end

/-! ### what a body leans on, in bundles -/
section
variable (P : Program) (w : World) (T : Tb) (mg : Str → Option Value) (base : Heap)
/-- a def of the module -/
def FnG (k : Nat) (x : Str) (G : FnD) : Prop := ∃ f, mg x = some (.ref f) ∧ PySem.W.keepIn T.K (.ref f) = true ∧ FnX P w T mg base k f G
/-- a method -/
def MtG (k c : Nat) (m : Str) (G : FnD) : Prop := ∃ C f, T.CT[c]? = some C ∧ Meth T.K C m f ∧ FnX P w T mg base k f G
/-- a class made -/
def ClG (k c : Nat) (x : Str) (G : FnD) : Prop := ∃ C f, T.CT[c]? = some C ∧ mg x = some (.ref C) ∧ Mk T.K C f ∧ Cls T.K C ∧ FnX P w T mg base k f G
/-- a property -/
def PrG (k c : Nat) (m : Str) (G : FnD) : Prop := ∃ C p g fd ps, T.CT[c]? = some C ∧ PropOf T.K C m p g ∧ Binds T.K fd ps [] ∧ FnOk P w T.K mg base (L2.CX P w) k g fd ps (spR T G)
/-- a static method -/
def SmG (k : Nat) (x m : Str) (G : FnD) : Prop := ∃ C f, mg x = some (.ref C) ∧ SMet T.K C m f ∧ FnX P w T mg base k f G
/-- __iter__ -/
def ItG (k c i : Nat) : Prop := ∃ C f fld, T.CT[c]? = some C ∧ T.FT[i]? = some fld ∧ Meth T.K C "__iter__" f ∧ IterFn P w T.K mg base k f C fld
end
/-- .. that stand in the written part alone -/
def NaG (T : Tb) (c i : Nat) (name : Str) : Prop := ∃ C, T.CT[c]? = some C ∧ T.FT[i]? = some name ∧ NoAttr T.K C name
def IsG (T : Tb) (mg : Str → Option Value) (c : Nat) (x : Str) (b : Bool) : Prop := ∃ C C2, T.CT[c]? = some C ∧ ClsI T.K C ∧ PySem.W.kitOne T.K (.ref C) (.ref C2) = some b ∧ mg x = some (.ref C2)
def SfG (T : Tb) (c : Nat) : Prop := ∃ C, T.CT[c]? = some C ∧ PySem.W.selfFirst T.K C = true
def NfG (T : Tb) (c : Nat) : Prop := ∃ C, T.CT[c]? = some C ∧ PySem.W.notFirst T.K C (.ref C) = true
/-- an op with an int at the right -/
def OiG (T : Tb) (c : Nat) (nm : String) : Prop := ∃ C fo ro rc, T.CT[c]? = some C ∧ PySem.W.selfFirst T.K C = true ∧ PySem.W.findIn T.K (.ref C) (dunderR nm) = some rc ∧ (rc = none ∨ ∃ g : Addr, rc = some (.ref g)) ∧ PySem.W.findIn T.K (.type "int") (PySem.dunder nm) = some fo ∧ PySem.W.findIn T.K (.type "int") (dunderR nm) = some ro ∧ PySem.W.subIn T.K (.type "int") (.ref C) = some false
section
variable {X : Cx} {T : Tb} {W : WX} {pos pos' p apos : Pos} {e o : Expr} {es : List Expr} {d : Den} {t : DenA} {k : Nat} {G : FnD}
theorem fk {f : Addr} (hK : X.K = T.K) (F : FnX X.prog X.w T X.mg X.base k f G) : FnR X.prog X.w X.K X.mg X.base (L2.CX X.prog X.w) k f (spR T G) := by
  rw [hK]; exact F
theorem pxg_call {x : Str} (hF : Fits X T W) (F : FnG X.prog X.w T X.mg X.base k x G) (hr : Room k X.A) (ha : CallsBy X pos es (tA T W t)) (hg : Gl X x := by rfl) (hdb : (x == ("__debug__" : Str)) = false := by decide) : PX X T W (.Call (.Name x p) es [] pos) (dCall G t) := by
  obtain ⟨f, hm, hk, F⟩ := F
  rw [← hF.K] at hk
  replace F := fk hF.K F
  exact px_call hF F hr hm hk ha hg hdb
theorem pxg_make (c : Nat) {x : Str} (hF : Fits X T W) (F : ClG X.prog X.w T X.mg X.base k c x G) (hr : Room (k + 1) X.A) (ha : CallsBy X pos es (tA T W t)) (hg : Gl X x := by rfl) (hdb : (x == ("__debug__" : Str)) = false := by decide) : PX X T W (.Call (.Name x p) es [] pos) (dMake c G t) := by
  obtain ⟨C, f, hC, hm, M, cl, F⟩ := F
  rw [← hF.K] at M
  replace F := fk hF.K F
  exact px_make c hF M hC cl F hr hm ha hg hdb
theorem pxg_meth (c : Nat) {m : Str} {pl : Sem Bool} {od : Den} (hF : Fits X T W) (F : MtG X.prog X.w T X.mg X.base k c m G) (hnf : m ∉ T.FT) (hr : Room k X.A) (ho : PX X T W o od) (ha : CallsBy X pos es (tA T W t))
    (ht : eval (.Call (.Attribute o m apos) es [] pos) X.env = (do
      let ov ← eval o X.env
      standAt apos.atName
      let (f, first) ← holding [ov] (getMethod ov m pl)
      callWith pos f first (backTo pos (starEach es X.env)) (backToKw pos (keywordEach [] X.env))) := by rfl) :
    PX X T W (.Call (.Attribute o m apos) es [] pos) (dMeth c G od t) := by
  obtain ⟨C, f, hC, hm, F⟩ := F
  rw [← hF.K] at hm
  replace F := fk hF.K F
  exact px_meth c hF hC hnf hm F hr ho ha ht
theorem pxg_prop (c : Nat) {m : Str} {od : Den} (hF : Fits X T W) (F : PrG X.prog X.w T X.mg X.base k c m G) (hr : Room (k + 1) X.A) (ho : PX X T W e od)
    (hab : attributeBase e m X.env (eval e X.env) = eval e X.env := by rfl) : PX X T W (.Attribute e m pos) (dProp c G od) := by
  obtain ⟨C, pp, g, fd, ps, hC, hp, hb, F⟩ := F
  rw [← hF.K] at hp hb F
  exact px_prop c hF hC hp F hb hr ho hab
theorem pxg_static {x m : Str} {pl : Sem Bool} (hF : Fits X T W) (F : SmG X.prog X.w T X.mg X.base k x m G) (hr : Room k X.A) (ha : CallsBy X pos es (tA T W t)) (hg : Gl X x := by rfl)
    (hdb : (x == ("__debug__" : Str)) = false := by decide)
    (ht : eval (.Call (.Attribute (.Name x p) m apos) es [] pos) X.env = (do
      let ov ← eval (.Name x p) X.env
      standAt apos.atName
      let (f, first) ← holding [ov] (getMethod ov m pl)
      callWith pos f first (backTo pos (starEach es X.env)) (backToKw pos (keywordEach [] X.env))) := by rfl) :
    PX X T W (.Call (.Attribute (.Name x p) m apos) es [] pos) (dCall G t) := by
  obtain ⟨C, f, hm, hS, F⟩ := F
  rw [← hF.K] at hS
  replace F := fk hF.K F
  exact px_static hF hS F hr hm ha hg hdb ht
theorem pixg_own {c i : Nat} {tg : Expr} (hF : Fits X T W) (F : ItG X.prog X.w T X.mg X.base k c i) (hr : Room k X.A) (h : PX X T W e d) : PIX X T W tg e (dIOwn c i d) := by
  obtain ⟨C, f, fld, hC, hn, hm, F⟩ := F
  rw [← hF.K] at hm F
  exact pix_own hF hC hn hm F hr h
theorem psxg_fld (c i : Nat) {name : Str} {od : Den} (hF : Fits X T W) (h : NaG T c i name) (ho : PX X T W o od) (hv : PX X T W e d)
    (hs : swapsWith e (some (.Attribute o name pos')) pos.line X.env = pure false := by rfl) : PSX X T W (.Assign [.Attribute o name pos'] e pos) (dSetF c i od d) := by
  obtain ⟨C, hC, hn, na⟩ := h
  exact psx_fld c i hF hn hC na ho hv hs
/-- self.f = [comprehension]: swapsWith is false there, too -/
theorem pxg_isC {e : Expr} {d : Den} {x : Str} {c : Nat} {b : Bool} {p p2 : Pos} (hF : Fits X T W) (h : IsG T X.mg c x b) (hm : X.mg "isinstance" = none) (he : PX X T W e d)
    (hg2 : Gl X x := by rfl) (hd2 : (x == ("__debug__" : Str)) = false := by decide)
    (hg : Gl X "isinstance" := by rfl) (hs : starEach [e, .Name x p2] X.env = (false, eval e X.env) :: starEach [.Name x p2] X.env := by rfl) (hs2 : starEach [.Name x p2] X.env = (false, eval (.Name x p2) X.env) :: starEach [] X.env := by rfl)
    (hpl : (backTo pos (starEach [.Name x p2] X.env)).any (·.1) = false := by rfl) : PX X T W (.Call (.Name "isinstance" p) [e, .Name x p2] [] pos) (dIsC c b d) := by
  obtain ⟨C, C2, hC, hI, hk, hm2⟩ := h
  rw [← hF.K] at hI hk
  exact px_isC hF hC hI hk hm hm2 he hg2 hd2 hg hs hs2 hpl
theorem oxg_own2 {c : Nat} {op : Operator} {m : Str} (hK : X.K = T.K) (F : MtG X.prog X.w T X.mg X.base k c m G) (hc : SfG T c) (hr : Room k X.A) (hd : PySem.dunder op.info.2 = m := by decide +kernel) : OpX X T (binaryOp op) (own2 c G) := by
  obtain ⟨C, f, hC, hm, F⟩ := F
  obtain ⟨C', hC', hc⟩ := hc
  rw [hC] at hC'; cases hC'
  rw [← hK] at hm hc
  replace F := fk hK F
  exact ox_own2 hK hC hm hd hc F hr
theorem oxg_le {c : Nat} (hK : X.K = T.K) (F : MtG X.prog X.w T X.mg X.base k c "__le__" G) (hn : NfG T c) (hr : Room k X.A) : OpX X T (compareOp .LtE) (own2 c G) := by
  obtain ⟨C, f, hC, hm, F⟩ := F
  obtain ⟨C', hC', hn⟩ := hn
  rw [hC] at hC'; cases hC'
  rw [← hK] at hm hn
  replace F := fk hK F
  exact ox_ownC (m := "__le__") hK hC hm (by decide +kernel) hn (fun h => h) F hr
theorem oxg_eq {c : Nat} (hK : X.K = T.K) (F : MtG X.prog X.w T X.mg X.base k c "__eq__" G) (hn : NfG T c) (hr : Room k X.A) : OpX X T (compareOp .Eq) (own2 c G) := by
  obtain ⟨C, f, hC, hm, F⟩ := F
  obtain ⟨C', hC', hn⟩ := hn
  rw [hC] at hC'; cases hC'
  rw [← hK] at hm hn
  replace F := fk hK F
  exact ox_ownC (m := "__eq__") hK hC hm (by decide +kernel) hn (fun h => h) F hr
theorem oxg_ownI {c : Nat} {op : Operator} {m : Str} {nm : String} (hK : X.K = T.K) (F : MtG X.prog X.w T X.mg X.base k c m G) (hc : OiG T c nm) (hr : Room k X.A) (hd : PySem.dunder op.info.2 = m := by decide +kernel) (hnm : op.info.2 = nm := by rfl) : OpX X T (binaryOp op) (ownI c G) := by
  subst hnm
  obtain ⟨C, f, hC, hm, F⟩ := F
  obtain ⟨C', fo, ro, rc, hC', h1, h2, h3, h4, h5, h6⟩ := hc
  rw [hC] at hC'; cases hC'
  rw [← hK] at hm h1 h2 h4 h5 h6
  replace F := fk hK F
  exact ox_ownI hK hC hm hd h1 h2 h3 h4 h5 h6 F hr
/-- n * o: o's __rmul__ -/
def ownRI (c : Nat) (G : FnD) : OpD := fun x y st => match x with
  | .int _ => if isIns c y st = true then ofR (G [y, x] st) else none
  | _ => none
/-- what int * instance asks of the class -/
def RiG (T : Tb) (c : Nat) : Prop := ∃ C g2, T.CT[c]? = some C ∧ PySem.W.selfFirst T.K C = true ∧ PySem.W.findIn T.K (.ref C) (PySem.dunder "mul") = some (some (.ref g2)) ∧ PySem.W.subIn T.K (.ref C) (.type "int") = some false
theorem oxg_ownRI {c : Nat} (hK : X.K = T.K) (F : MtG X.prog X.w T X.mg X.base k c "__rmul__" G) (hc : RiG T c) (hr : Room k X.A) : OpX X T (binaryOp .Mult) (ownRI c G) := fun pins s σ H x y v u Q I rx ry ⟨μ, d, e, st, so, r1, r2, h⟩ => by
  obtain ⟨C, f, hC, hm, F⟩ := F
  obtain ⟨C', g2, hC', h1, h2, h3⟩ := hc
  rw [hC] at hC'; cases hC'
  rw [← hK] at hm h1 h2 h3
  replace F := fk hK F
  unfold ownRI at h
  cases d with
  | int j =>
    dsimp only at h
    by_cases hi : isIns c e st = true
    · rw [if_pos hi] at h
      obtain ⟨n1, fs1, rfl, q1⟩ := isIns_of (n := 0) hi
      obtain ⟨a, C1, dx1, vs1, rfl, e1, g2', g3, g4, g5⟩ := ins_of so r2 q1
      rw [hC] at g2'; cases g2'
      obtain rfl : u = Value.ref a := ry
      have r1' := r1
      simp only [RV] at r1'
      subst r1'
      obtain ⟨t, rfl⟩ := id rx
      obtain ⟨od1, J1⟩ := inst_of I g4
      refine PySem.W.fw_refl I.kIn J1 rfl h1 h2 (show PySem.W.findIn X.K (.ref C) (dunderR "mul") = some (some (.ref f)) from hm.at_) hm.fn h3 ?_
      refine thn (run_own (us := [.ref a, .int j t]) (vs := [.ref a, .int j]) (ds := [.ref n1, .int j]) F hr rfl I (.cons rfl (.cons ⟨t, rfl⟩ .nil)) so (by simp only [RVs]; exact ⟨_, _, rfl, r2, _, _, rfl, r1, rfl⟩) h) fun r s' hh => ?_
      obtain ⟨z, H', I', rz, q⟩ := hh
      exact SlX.cmpback rz ⟨z, H', I', rz, q⟩
    · rw [if_neg hi] at h; exact h.elim
  | _ => exact h.elim
theorem oxg_ownIn {c : Nat} (hK : X.K = T.K) (F : MtG X.prog X.w T X.mg X.base k c "__contains__" G) (hr : Room k X.A) : OpX X T (compareOp .In) (ownIn c G) := by
  obtain ⟨C, f, hC, hm, F⟩ := F
  rw [← hK] at hm
  replace F := fk hK F
  exact ox_ownIn hK hC hm F hr
theorem cxg_ownLen {c : Nat} (hK : X.K = T.K) (F : MtG X.prog X.w T X.mg X.base k c "__len__" G) (hr : Room (k + 1) X.A) : CallX X T (.builtin "len") (ownLen c G) := by
  obtain ⟨C, f, hC, hm, F⟩ := F
  rw [← hK] at hm
  replace F := fk hK F
  exact cx_ownLen hK hC hm F hr
theorem cxg_ownStr {c : Nat} (hK : X.K = T.K) (F : MtG X.prog X.w T X.mg X.base k c "__str__" G) (hr : Room (k + 2) X.A) : CallX X T (.type "str") (ownStr c G) := by
  obtain ⟨C, f, hC, hm, F⟩ := F
  rw [← hK] at hm
  replace F := fk hK F
  exact cx_ownStr hK hC hm F hr
/-- x += e of ints -/
def iaddO : OpD := fun x y st => match x, y with
  | .int i, .int j => some (.int (i + j), st)
  | _, _ => none
def isubO : OpD := fun x y st => match x, y with
  | .int i, .int j => some (.int (i - j), st)
  | _, _ => none
theorem pip_imp {op : Operator} {r r' : TIp} (h : PIp X op r) (f : ∀ x y H Q, r' x y H Q → r x y H Q) : PIp X op r' := fun pins s σ H x y v u Q I rx ry q => h pins s σ H x y v u Q I rx ry (f x y H Q q)
theorem ipx_add : PIp X .Add (rD T iaddO) := pip_imp ip_add fun x y H Q ⟨μ, d, e, st, s, r1, r2, h⟩ => by
  cases d with
  | int i =>
    cases e with
    | int j =>
      simp only [RV] at r1 r2; subst r1 r2
      exact ⟨i, j, rfl, rfl, PostO.fin s (by simp [RV]) h⟩
    | _ => exact h.elim
  | _ => exact h.elim
theorem ipx_sub : PIp X .Sub (rD T isubO) := pip_imp ip_sub fun x y H Q ⟨μ, d, e, st, s, r1, r2, h⟩ => by
  cases d with
  | int i =>
    cases e with
    | int j =>
      simp only [RV] at r1 r2; subst r1 r2
      exact ⟨i, j, rfl, rfl, PostO.fin s (by simp [RV]) h⟩
    | _ => exact h.elim
  | _ => exact h.elim
end
/-! ### from a body's derivation to the bundles -/
section
variable {P : Program} {w : World} {T : Tb} {mg : Str → Option Value} {base : Heap} {k : Nat} {f : Addr} {fd : FuncData} {x qual : Str} {st : Stmt} {N ps : List Str} {b : DenS} {C : Addr} {c : Nat}
theorem fnok_body (F : Fun T.K x qual st f fd) (S : FnScope N ps (defScope st)) (h : BodyX P w T mg base k N qual st f b) : FnOk P w T.K mg base (L2.CX P w) (k + 1) f fd ps (spR T (bodyF ps.length N.length b)) := by
  refine F.okX S (fun vs H Q E hsp => ?_) (fun cdv A outer s H vs Q E hr hsp => ?_)
  · obtain ⟨μ, ds, st', so, r, hp⟩ := hsp
    rw [r.len]
    unfold bodyF at hp
    by_cases hl : ds.length = ps.length
    · exact hl
    · rw [if_neg hl] at hp; exact hp.elim
  · obtain ⟨μ, ds, st', so, r, hp⟩ := hsp
    exact ⟨_, h cdv A outer s H E hr, μ, _, st', so, start_ok N r, body_post hp⟩
/-- how the names of a def stand to its text: parameters bound by place -/
abbrev BindP (ps : List Str) (x qual : Str) (st : Stmt) : Prop := ∀ (kV doc pm : Value) (an : Option Addr) (cdv ct : Value) (us : List Value), us.length = ps.length → bindArgs (PySem.W.fnOf x qual (defArgs st) (defBody st) (defScope st) .none kV doc pm an cdv ct) ⟨us, []⟩ = pure (ps.zip us)
abbrev BindS (ps : List Str) (pv x qual : Str) (st : Stmt) : Prop := ∀ (kV doc pm : Value) (an : Option Addr) (cdv ct : Value) (us rest : List Value), us.length = ps.length →
      bindArgs (PySem.W.fnOf x qual (defArgs st) (defBody st) (defScope st) .none kV doc pm an cdv ct) ⟨us ++ rest, []⟩ = (newTuple rest >>= fun t => pure (ps.zip us ++ [(pv, t)]))
theorem fng_of (F : Fun T.K x qual st f fd) (hm : mg x = some (.ref f)) (S : FnScope N ps (defScope st)) (hb : BindP ps x qual st) (h : BodyX P w T mg base k N qual st f b) : FnG P w T mg base (k + 1) x (bodyF ps.length N.length b) :=
  ⟨f, hm, F.kp, fnx_body F S (F.binds hb) h⟩
/-- a method's facts -/
theorem mtg_of (F : Fun T.K x qual st f fd) (hC : T.CT[c]? = some C) (a : PySem.W.findIn T.K (.ref C) x = some (some (.ref f))) (i : PySem.W.isFn T.K (.ref f) = true) (S : FnScope N ps (defScope st)) (hb : BindP ps x qual st) (h : BodyX P w T mg base k N qual st f b) : MtG P w T mg base (k + 1) c x (bodyF ps.length N.length b) :=
  ⟨C, f, hC, ⟨a, i, F.kp⟩, fnx_body F S (F.binds hb) h⟩
theorem clg_of {X : Str} (F : Fun T.K "__init__" qual st f fd) (hC : T.CT[c]? = some C) (hm : mg X = some (.ref C)) (cl : Cls T.K C) (mk : PySem.W.makesIn T.K C = true) (kc : PySem.W.keepIn T.K (.ref C) = true) (a : PySem.W.findIn T.K (.ref C) "__init__" = some (some (.ref f))) (i : PySem.W.isFn T.K (.ref f) = true)
    (S : FnScope N ps (defScope st)) (hb : BindP ps "__init__" qual st) (h : BodyX P w T mg base k N qual st f b) : ClG P w T mg base (k + 1) c X (bodyF ps.length N.length b) :=
  ⟨C, f, hC, hm, ⟨mk, a, i, kc⟩, cl, fnx_body F S (F.binds hb) h⟩
theorem clg_ofS {X pv : Str} (F : Fun T.K "__init__" qual st f fd) (hC : T.CT[c]? = some C) (hm : mg X = some (.ref C)) (cl : Cls T.K C) (mk : PySem.W.makesIn T.K C = true) (kc : PySem.W.keepIn T.K (.ref C) = true) (a : PySem.W.findIn T.K (.ref C) "__init__" = some (some (.ref f))) (i : PySem.W.isFn T.K (.ref f) = true)
    (S : FnScope N (ps ++ [pv]) (defScope st)) (hb : BindS ps pv "__init__" qual st) (h : BodyX P w T mg base k N qual st f b) : ClG P w T mg base (k + 1) c X (bodyStar ps.length N.length b) :=
  ⟨C, f, hC, hm, ⟨mk, a, i, kc⟩, cl, fnx_star F S hb h⟩
theorem prg_of {p : Addr} {rest : List Value} (F : Fun T.K x qual st f fd) (hC : T.CT[c]? = some C) (a : PySem.W.findIn T.K (.ref C) x = some (some (.ref p))) (g : PySem.W.specialIn T.K (.ref p) "__get__" = some (some (.builtin "property.__get__"))) (t : PySem.W.takesIn T.K (.ref p) = some true) (r : PySem.W.recIn T.K p "property" = some (.ref f :: rest))
    (S : FnScope N ps (defScope st)) (hb : BindP ps x qual st) (h : BodyX P w T mg base k N qual st f b) : PrG P w T mg base (k + 1) c x (bodyF ps.length N.length b) :=
  ⟨C, p, f, fd, ps, hC, ⟨a, g, t, rest, r⟩, F.binds hb, fnok_body F S h⟩
theorem smg_ofS {p : Addr} {rest : List Value} {X pv : Str} (F : Fun T.K x qual st f fd) (hm : mg X = some (.ref C)) (rd : PySem.W.readsIn T.K C (.type "type") = true) (ga : PySem.W.specialIn T.K (.ref C) "__getattribute__" = some (some (.builtin "type.__getattribute__")))
    (a : PySem.W.findCls T.K (.ref C) (.type "type") x = some (.get (.builtin "staticmethod.__get__") (.ref p) .none (.ref C))) (r : PySem.W.recIn T.K p "staticmethod" = some (.ref f :: rest)) (S : FnScope N (ps ++ [pv]) (defScope st)) (hb : BindS ps pv x qual st) (h : BodyX P w T mg base k N qual st f b) : SmG P w T mg base (k + 1) X x (bodyStar ps.length N.length b) :=
  ⟨C, f, hm, ⟨rd, ga, ⟨p, a, rest, r⟩, F.kp⟩, fnx_star F S hb h⟩
theorem itg_of {i : Nat} {fld : Str} {p1 p2 p3 p4 p5 : Pos} (F : Fun T.K "__iter__" qual st f fd) (hC : T.CT[c]? = some C) (hn : T.FT[i]? = some fld) (a : PySem.W.findIn T.K (.ref C) "__iter__" = some (some (.ref f))) (ii : PySem.W.isFn T.K (.ref f) = true) (S : FnScope ["self"] ["self"] (defScope st)) (hb : BindP ["self"] "__iter__" qual st) (hm : mg "iter" = none) (hg : (defScope st).names.lookup ("iter" : Str) = some .globalImplicit)
    (hbd : defBody st = [.Return (some (.Call (.Name "iter" p1) [.Attribute (.Name "self" p2) fld p3] [] p4)) p5]) : ItG P w T mg base (k + 1) c i :=
  ⟨C, f, fld, hC, hn, ⟨a, ii, F.kp⟩, iterFn_of F S (F.binds hb) hm hg hbd⟩
end
end FW

set_option Elab.async false
set_option linter.all false
set_option maxRecDepth 100000
set_option maxHeartbeats 4000000
namespace FW
open PySem PySem.Spec PyProof.Rows L2
/-! ### the law's own call -/
theorem script_rv {K : PySem.W.Frag} {H : Hp} {a : Addr} {ns : List Int} (hO : Only H) (hS : SqL K H a (ns.map V.int)) : (∃ o, H a = some (.frz o (.lst (ns.map V.int)))) ∨ SqK K a (ns.map V.int) := by
  rcases hS with (h | h) | h
  · rcases hO a with e | ⟨o, xs, e⟩
    · rw [e] at h; cases h
    · rw [e] at h; cases h
  · exact .inl h
  · exact .inr h
theorem bindS0 {st : Stmt} {x qual pv : Str} {q : Pos} (e : defArgs st = ⟨[], [], some ⟨pv, none, q⟩, [], [], none, []⟩) : BindS [] pv x qual st := by
  intro kV doc pm an cdv ct us rest hl
  match us, hl with
  | [], _ =>
    rw [e]
    generalize defBody _ = bb
    generalize defScope _ = ss
    simp [bindArgs, PySem.W.fnOf, seqItems?]
    rfl
theorem bindS1 {st : Stmt} {x qual n pv : Str} {p q : Pos} (e : defArgs st = ⟨[], [⟨n, none, p⟩], some ⟨pv, none, q⟩, [], [], none, []⟩) : BindS [n] pv x qual st := by
  intro kV doc pm an cdv ct us rest hl
  match us, hl with
  | [a], _ =>
    rw [e]
    generalize defBody _ = bb
    generalize defScope _ = ss
    simp [bindArgs, PySem.W.fnOf, seqItems?]
    rfl
end FW

set_option Elab.async false
set_option linter.all false
set_option maxRecDepth 100000
set_option maxHeartbeats 4000000
namespace FW
open PySem PySem.Spec PyProof.Rows L2

/-! ### evaluation, step by step -/
section
variable {α : Type} {ρ : DEnv} {st : DSto} {a b c d : Den} {t u : DenT} {s s1 : DenS} {es fs : DenA} {G : FnD} {n N i j k : Nat} {f g : OpD} {ds : List D} {x y : D} {di : DenI} {tg : DenG} {sf : SetD} {ol : OpL}
@[simp] theorem dSeq_ap : dSeq s s1 ρ st = (s ρ st).andThen s1 := id rfl
@[simp] theorem dSkip_ap : dSkip ρ st = .nx ρ st := id rfl
@[simp] theorem dBreak_ap : dBreak ρ st = .bk ρ st := id rfl
@[simp] theorem dCont_ap : dCont ρ st = .ct ρ st := id rfl
@[simp] theorem dExpr_ap : dExpr d ρ st = (d ρ st).toS ρ fun _ st => .nx ρ st := id rfl
@[simp] theorem dRet_ap : dRet d ρ st = (d ρ st).toS ρ fun x st => .rt x st := id rfl
@[simp] theorem dRetN_ap : dRetN ρ st = .rt .non st := id rfl
@[simp] theorem dIfS_ap : dIfS t s s1 ρ st = (t ρ st).toS ρ fun k st => if k = true then s ρ st else s1 ρ st := id rfl
@[simp] theorem dAsg_ap : dAsg i d ρ st = (d ρ st).toS ρ fun x st => .nx (ρ.set i (some x)) st := id rfl
@[simp] theorem dAsgG_ap : dAsgG d tg ρ st = (d ρ st).toS ρ fun x st => match tg x ρ st with
  | some (ρ', st') => .nx ρ' st'
  | none => .bad := id rfl
@[simp] theorem gdName_ap : gdName i x ρ st = some (ρ.set i (some x), st) := id rfl
@[simp] theorem gdSub_ap : gdSub a b sf x ρ st = match a ρ st with
  | .ok x1 st1 => match b ρ st1 with
    | .ok y st2 => match sf x1 y x st2 with
      | some st3 => some (ρ, st3)
      | none => none
    | _ => none
  | _ => none := id rfl
@[simp] theorem dAug_ap : dAug i d f ρ st = match ρ[i]? with
  | some (some x) => (d ρ st).toS ρ fun y st => match f x y st with
    | some (z, st) => .nx (ρ.set i (some z)) st
    | none => .bad
  | _ => .bad := id rfl
@[simp] theorem dFor_ap : dFor di tg s ρ st = (di ρ st).toS ρ fun p st => forL p.2 tg s p.1 ρ st := id rfl
@[simp] theorem dVar_ap : dVar i ρ st = match ρ[i]? with
  | some (some d) => .ok d st
  | _ => .bad := id rfl
@[simp] theorem dC_ap : dC x ρ st = .ok x st := id rfl
@[simp] theorem dOp_ap : dOp f a b ρ st = (a ρ st).bind fun x st => (b ρ st).bind fun y st => ofO (f x y st) := id rfl
@[simp] theorem dB_ap : dB d ρ st = (d ρ st).bind fun x st => match x with
  | .bl b => .ok b st
  | _ => .bad := id rfl
@[simp] theorem dChain_ap : dChain f g a b c ρ st = (a ρ st).bind fun x st => (b ρ st).bind fun y st => (ofO (f x y st)).bind fun k st => match k with
  | .bl true => (c ρ st).bind fun z st => ofO (g y z st)
  | .bl false => .ok (.bl false) st
  | _ => .bad := id rfl
@[simp] theorem ofO_some : ofO (some (x, st)) = .ok x st := id rfl
@[simp] theorem ofO_none : ofO (none : Option (α × DSto)) = .bad := id rfl
@[simp] theorem dAnd_ap : dAnd t u ρ st = (t ρ st).bind fun x st => if x = true then u ρ st else .ok false st := id rfl
@[simp] theorem dOr_ap : dOr t u ρ st = (t ρ st).bind fun x st => if x = true then .ok true st else u ρ st := id rfl
@[simp] theorem dNot_ap : dNot t ρ st = (t ρ st).bind fun x st => .ok (!x) st := id rfl
@[simp] theorem dIf_ap : dIf t a b ρ st = (t ρ st).bind fun x st => if x = true then a ρ st else b ρ st := id rfl
@[simp] theorem dAndV_ap : dAndV a b ρ st = (a ρ st).bind fun x st => match x with
  | .bl true => b ρ st
  | .bl false => .ok (.bl false) st
  | _ => .bad := id rfl
@[simp] theorem dOrV_ap : dOrV a b ρ st = (a ρ st).bind fun x st => match x with
  | .bl true => .ok (.bl true) st
  | .bl false => b ρ st
  | _ => .bad := id rfl
@[simp] theorem dNotV_ap : dNotV a ρ st = (a ρ st).bind fun x st => match x with
  | .bl b => .ok (.bl (!b)) st
  | _ => .bad := id rfl
@[simp] theorem dNil_ap : dNil ρ st = .ok [] st := id rfl
@[simp] theorem dCons_ap : dCons a es ρ st = (a ρ st).bind fun x st => (es ρ st).bind fun xs st => .ok (x :: xs) st := id rfl
@[simp] theorem dStar_ap : dStar a es ρ st = (a ρ st).bind fun x st => match itemsD x st with
  | some ys => (es ρ st).bind fun xs st => .ok (ys ++ xs) st
  | none => .bad := id rfl
@[simp] theorem dTup_ap : dTup es ρ st = (es ρ st).bind mkTup := id rfl
@[simp] theorem dLst_ap : dLst es ρ st = (es ρ st).bind mkLst := id rfl
@[simp] theorem dCall_ap : dCall G es ρ st = (es ρ st).bind G := id rfl
@[simp] theorem dMake_ap : dMake n G es ρ st = (es ρ st).bind fun ds st => mkObj n G ds st := id rfl
@[simp] theorem dMeth_ap : dMeth n G a es ρ st = (a ρ st).bind fun x st => if isIns n x st = true then (es ρ st).bind fun ds st => G (x :: ds) st else .bad := id rfl
@[simp] theorem dProp_ap : dProp n G a ρ st = (a ρ st).bind fun x st => if isIns n x st = true then (match G [x] st with
  | .ok d st => .ok d st
  | _ => .bad) else .bad := id rfl
@[simp] theorem dFld_ap : dFld i a ρ st = (a ρ st).bind (fldD i) := id rfl
@[simp] theorem dSetF_ap : dSetF n i a d ρ st = (d ρ st).toS ρ fun y st => (a ρ st).toS ρ fun x st => match setFld n i x y st with
  | some st => .nx ρ st
  | none => .bad := id rfl
@[simp] theorem dB'_ap : dB' ol es ρ st = (es ρ st).bind fun ds st => ofO (ol ds st) := id rfl
@[simp] theorem dApp_ap : dApp a b ρ st = (a ρ st).bind fun x st => match x with
  | .ref n => match st[n]? with
    | some (.lst _) => (b ρ st).bind fun y st => match st[n]? with
      | some (.lst xs) => if xs.length < sizeLine then .ok .non (st.set n (.lst (xs ++ [y]))) else .bad
      | _ => .bad
    | _ => .bad
  | _ => .bad := id rfl
@[simp] theorem dJoin_ap : dJoin a b ρ st = (a ρ st).bind fun x st => match x with
  | .str z => (b ρ st).bind fun y st => ofO (joinO (.str z) y st)
  | _ => .bad := id rfl
@[simp] theorem dPart_none : dPart none ρ st = .ok none st := id rfl
@[simp] theorem dPart_some : dPart (some d) ρ st = (d ρ st).bind fun x st => match x with
    | .int i => .ok (some i) st
    | _ => .bad := id rfl
@[simp] theorem dSl_ap {lo hi : Option Den} : dSl d lo hi ρ st = (d ρ st).bind fun x st => (dPart lo ρ st).bind fun l st => (dPart hi ρ st).bind fun h st => ofO (slO x l h st) := id rfl
@[simp] theorem dISeq_ap : dISeq d ρ st = (d ρ st).bind fun x st => match x with
  | .tup xs => .ok (xs, []) st
  | .ref n => match st[n]? with
    | some (.lst xs) => .ok (xs, [(n, .lst xs)]) st
    | _ => .bad
  | .scr ns => .ok (ns.map D.int, []) st
  | _ => .bad := id rfl
/-- the numbers that a range counts -/
def rngO (x y : D) (st : DSto) : DRes (List D × Chk) := match x, y with
  | .int i, .int j => if -(2 ^ 62) ≤ i ∧ i < 2 ^ 62 ∧ -(2 ^ 62) ≤ j ∧ j < 2 ^ 62 then .ok (rngD i (j - i).toNat, []) st else .bad
  | _, _ => .bad
@[simp] theorem dIRng1_ap : dIRng1 d ρ st = (d ρ st).bind fun x st => rngO (.int 0) x st := by
  show (d ρ st).bind _ = _
  congr 1
  funext x st
  unfold rngO
  cases x with
  | int j =>
    dsimp only
    by_cases h : -(2 ^ 62) ≤ j ∧ j < 2 ^ 62
    · rw [if_pos h, if_pos ⟨by decide, by decide, h⟩, Int.sub_zero]
    · rw [if_neg h, if_neg fun z => h z.2.2]
  | _ => rfl
@[simp] theorem dIRng2_ap : dIRng2 a b ρ st = (a ρ st).bind fun x st => (b ρ st).bind fun y st => rngO x y st := id rfl
theorem rngO_nat {i j : Int} (h0 : -1000000 ≤ i) (h1 : i ≤ 1000000000) (h2 : -1000000 ≤ j) (h3 : j ≤ 1000000000) : rngO (.int i) (.int j) st = .ok (rngD i (j - i).toNat, []) st :=
  if_pos ⟨by omega, by omega, by omega, by omega⟩
theorem rngD_eq (n : Nat) : rngD 0 n = (List.range n).map fun k : Nat => D.int (k : Int) := by
  apply List.ext_getElem?
  intro i
  by_cases h : i < n
  · rw [rngD_get n 0 i h]; simp [h]
  · rw [List.getElem?_eq_none (by rw [rngD_len]; omega), List.getElem?_eq_none (by simp; omega)]
/-- range(n) -/
theorem rngO_0 {n : Nat} (h : n ≤ 1000000) : rngO (.int 0) (.int (n : Int)) st = .ok ((List.range n).map fun k : Nat => D.int (k : Int), []) st := by
  rw [rngO_nat (by decide) (by decide) (by omega) (by omega), Int.sub_zero, Int.toNat_natCast, rngD_eq]
@[simp] theorem dIOwn_ap : dIOwn n i d ρ st = (d ρ st).bind fun x st => if isIns n x st = true then (match fldD i x st with
  | .ok (.ref m) st => match st[m]? with
    | some (.lst xs) => .ok (xs, [(m, .lst xs)]) st
    | _ => .bad
  | _ => .bad) else .bad := id rfl
@[simp] theorem dIsTy_ap {ty : String} : dIsTy ty d ρ st = (d ρ st).bind fun x st => match tyName x st with
  | some a => match kitB a ty with
    | some b => .ok (.bl b) st
    | none => .bad
  | none => .bad := id rfl
@[simp] theorem dIsC_ap {b : Bool} : dIsC n b d ρ st = (d ρ st).bind fun x st => if isIns n x st = true then .ok (.bl b) st else .bad := id rfl
@[simp] theorem dLc_ap {vs : List Nat} {step : DEnv → List D → DSto → Option (List D × DSto)} : dLc di vs tg step ρ st = (di ρ st).bind fun p st1 => match compL p.2 vs tg step ρ p.1 [] st1 with
  | some (xs, st') => .ok (.ref st'.length) (st' ++ [.lst xs])
  | none => .bad := id rfl
@[simp] theorem dYes_ap : dYes ρ st = .ok true st := id rfl
theorem bodyF_ap (h : ds.length = n) : bodyF n N s ds st = match s (ds.map some ++ List.replicate (N - ds.length) none) st with
  | .nx _ st' => .ok .non st'
  | .rt d st' => .ok d st'
  | .exc c fs _ st' => .exc c fs st'
  | _ => .bad := if_pos h
end

/-! ### lists by place -/
theorem atI_nat {α : Type} (xs : List α) (n : Nat) : atI xs (n : Int) = xs[n]? := by
  unfold atI ixN
  by_cases h : n < xs.length
  · rw [if_pos (by omega), if_pos (by omega)]; simp
  · rw [if_pos (by omega), if_neg (by omega)]; simp [List.getElem?_eq_none (by omega : xs.length ≤ n)]
@[simp] theorem atI_0 {α : Type} (xs : List α) : atI xs 0 = xs[0]? := atI_nat xs 0
@[simp] theorem atI_1 {α : Type} (xs : List α) : atI xs 1 = xs[1]? := atI_nat xs 1
@[simp] theorem atI_2 {α : Type} (xs : List α) : atI xs 2 = xs[2]? := atI_nat xs 2
@[simp] theorem atI_3 {α : Type} (xs : List α) : atI xs 3 = xs[3]? := atI_nat xs 3
@[simp] theorem atI_4 {α : Type} (xs : List α) : atI xs 4 = xs[4]? := atI_nat xs 4
theorem ixN_nat {n k : Nat} (h : k < n) : ixN n (k : Int) = some k := by
  unfold ixN; rw [if_pos (by omega), if_pos (by omega)]; simp
theorem atI_in {α : Type} {xs : List α} {i : Int} (h0 : 0 ≤ i) (h1 : i < xs.length) : ∃ x, atI xs i = some x ∧ x ∈ xs := by
  obtain ⟨n, rfl⟩ := Int.eq_ofNat_of_zero_le h0
  have hn : n < xs.length := by omega
  exact ⟨xs[n], by show atI xs (n : Int) = _; rw [atI_nat, List.getElem?_eq_getElem hn], List.getElem_mem hn⟩
@[simp] theorem kitB_bool : kitB "bool" "bool" = some true := by decide +kernel

@[simp] theorem reify_int (st : DSto) (i : Int) : reify st (.int i) = some (.int i) := id rfl
@[simp] theorem reify_bl (st : DSto) (i : Bool) : reify st (.bl i) = some (.bool i) := id rfl
@[simp] theorem reify_str (st : DSto) (i : Str) : reify st (.str i) = some (.str i) := id rfl
@[simp] theorem reify_non (st : DSto) : reify st .non = some .none := id rfl
@[simp] theorem shaped_int (i : Int) : SeqAt.shaped (.int i) = true := id rfl
@[simp] theorem shaped_bl (i : Bool) : SeqAt.shaped (.bool i) = true := id rfl
@[simp] theorem shaped_non : SeqAt.shaped .none = true := id rfl
@[simp] theorem eqO_int (st : DSto) (i j : Int) : eqO (.int i) (.int j) st = some (.bl (i == j), st) := id rfl
@[simp] theorem neO_int (st : DSto) (i j : Int) : neO (.int i) (.int j) st = some (.bl (!(i == j)), st) := id rfl
@[simp] theorem eqO_bl (st : DSto) (i j : Bool) : eqO (.bl i) (.bl j) st = some (.bl (i == j), st) := id rfl
@[simp] theorem neO_bl (st : DSto) (i j : Bool) : neO (.bl i) (.bl j) st = some (.bl (!(i == j)), st) := id rfl
@[simp] theorem addO_int (st : DSto) (i j : Int) : addO (.int i) (.int j) st = some (.int (i + j), st) := id rfl
@[simp] theorem subO_int (st : DSto) (i j : Int) : subO (.int i) (.int j) st = some (.int (i - j), st) := id rfl
@[simp] theorem iaddO_int (st : DSto) (i j : Int) : iaddO (.int i) (.int j) st = some (.int (i + j), st) := id rfl
@[simp] theorem cmpI_int (f : Int → Int → Bool) (st : DSto) (i j : Int) : cmpI f (.int i) (.int j) st = some (.bl (f i j), st) := id rfl
theorem addO_str (st : DSto) {a b : Str} (h : a.length + b.length ≤ sizeLine) : addO (.str a) (.str b) st = some (.str (a ++ b), st) := by
  unfold addO
  dsimp only
  rw [if_pos h]
theorem mulO_int (st : DSto) (i j : Int) : mulO (.int i) (.int j) st = if (-(2 ^ 64) < i ∧ i < 2 ^ 64) ∨ (-(2 ^ 64) < j ∧ j < 2 ^ 64) then some (.int (i * j), st) else none := rfl
theorem modO_int (st : DSto) {i j : Int} (h : 0 < j) : modO (.int i) (.int j) st = some (.int (i % j), st) := if_pos h
theorem fdivO_int (st : DSto) {i j : Int} (h : 0 < j) (h1 : j < 1073741824) : fdivO (.int i) (.int j) st = some (.int (i / j), st) := if_pos ⟨h, h1⟩
@[simp] theorem intO_int (st : DSto) (i : Int) : intO [.int i] st = some (.int i, st) := id rfl

/-! ### the law's own words that all laws share -/
def den_law_source : DenS :=
  (dSeq (dAsg 1 (dLc (dISeq (dSl (dVar 0) none (some (dC (.int 63))))) [2] (gdName 2) (stepE dYes (dB' intO (dCons (dVar 2) dNil)))))
    (dRet (dLst (dCons (dVar 1) (dCons (dLc (dISeq (dVar 1)) [2] (gdName 2) (stepE dYes (dOp geO (dVar 2) (dOp powO (dC (.int 10)) (dC (.int 18)))))) (dCons (dC (.int 0)) (dCons (dC (.int 0)) (dCons (dOp modO (dB' intO (dCons (dB' sumO (dCons (dVar 1) dNil)) dNil)) (dC (.int 1000003))) dNil))))))))
def G_law_source : FnD := bodyF 1 3 den_law_source

def den_law_draw : DenS :=
  (dSeq (dAsg 2 (dOp ixO (dVar 0) (dC (.int 0))))
    (dSeq (dAsg 3 (dOp ixO (dVar 0) (dC (.int 2))))
    (dSeq (dIfS (dB (dOp ltO (dVar 3) (dB' lenO (dCons (dVar 2) dNil)))) (dSeq (dAsg 5 (dOp ixO (dVar 2) (dVar 3)))
    (dSeq (dAsgG (dOp fdivO (dVar 5) (dVar 1)) (gdSub (dVar 2) (dVar 3) setLO))
    (dSeq (dIfS (dOr (dNot (dB (dOp ixO (dOp ixO (dVar 0) (dC (.int 1))) (dVar 3)))) (dB (dOp eqO (dOp ixO (dVar 2) (dVar 3)) (dC (.int 0))))) (dAsgG (dOp addO (dVar 3) (dC (.int 1))) (gdSub (dVar 0) (dC (.int 2)) setLO)) dSkip)
    (dRet (dOp modO (dB' intO (dCons (dVar 5) dNil)) (dVar 1)))))) dSkip)
    (dSeq (dIfS (dB (dOp eqO (dOp ixO (dVar 0) (dC (.int 4))) (dC (.int 0)))) (dRet (dC (.int 0))) dSkip)
    (dSeq (dAsgG (dOp addO (dOp ixO (dVar 0) (dC (.int 3))) (dC (.int 1))) (gdSub (dVar 0) (dC (.int 3)) setLO))
    (dSeq (dAsg 4 (dOp modO (dB' intO (dCons (dOp mulO (dOp addO (dOp ixO (dVar 0) (dC (.int 4))) (dOp mulO (dOp ixO (dVar 0) (dC (.int 3))) (dC (.int 7919)))) (dC (.int 48271))) dNil)) (dC (.int 2147483647))))
    (dRet (dOp modO (dOp fdivO (dOp modO (dB' intO (dCons (dOp mulO (dVar 4) (dVar 4)) dNil)) (dC (.int 998244353))) (dC (.int 7))) (dVar 1)))))))))
def G_law_draw : FnD := bodyF 2 6 den_law_draw

def den_law_names : DenS :=
  (dSeq (dAsg 2 (dC (.str (PySem.Str.ofString "abcdefghijklmnopqrstuvwxyz"))))
    (dSeq (dAsg 3 (dCall G_law_draw (dCons (dVar 0) (dCons (dC (.int 4)) dNil))))
    (dSeq (dAsg 4 (dCall G_law_draw (dCons (dVar 0) (dCons (dC (.int 4)) dNil))))
    (dSeq (dAsg 5 (dCall G_law_draw (dCons (dVar 0) (dCons (dC (.int 2)) dNil))))
    (dSeq (dAsg 6 (dCall G_law_draw (dCons (dVar 0) (dCons (dC (.int 26)) dNil))))
    (dSeq (dAsg 7 (dOp ixO (dVar 2) (dCall G_law_draw (dCons (dVar 0) (dCons (dC (.int 26)) dNil)))))
    (dRet (dLc (dIRng1 (dVar 1)) [8] (gdName 8) (stepE dYes (dOp addO (dOp addO (dOp mulO (dVar 7) (dVar 3)) (dOp ixO (dVar 2) (dOp modO (dB' intO (dCons (dOp addO (dVar 6) (dVar 8)) dNil)) (dC (.int 26))))) (dOp mulO (dVar 7) (dOp addO (dVar 4) (dOp mulO (dVar 5) (dOp modO (dB' intO (dCons (dVar 8) dNil)) (dC (.int 3))))))))))))))))
def G_law_names : FnD := bodyF 2 9 den_law_names

/-- behind the source's making: its cells stand at 1, its marks at 2, itself at 3 -/
def Src (st : DSto) : Prop := ∃ (z : DObj) (cells : List Int) (bools : List Bool) (k : Nat) (n seed : Int) (tl : DSto), st = z :: .lst (cells.map D.int) :: .lst (bools.map D.bl) :: .lst [.ref 1, .ref 2, .int k, .int n, .int seed] :: tl ∧ cells.length = bools.length
/-- all that was made behind the source stays -/
def Keep (st st' : DSto) : Prop := ∃ ν, st'.drop 4 = st.drop 4 ++ ν
theorem Keep.refl {st : DSto} : Keep st st := ⟨[], by simp⟩
theorem Keep.trans {a b c : DSto} (h : Keep a b) (k : Keep b c) : Keep a c := by
  obtain ⟨n, h⟩ := h
  obtain ⟨m, k⟩ := k
  exact ⟨n ++ m, by rw [k, h, List.append_assoc]⟩
theorem Keep.app {a : DSto} (ν : DSto) (h : 4 ≤ a.length) : Keep a (a ++ ν) := ⟨ν, by rw [List.drop_append_of_le_length h]⟩
theorem Keep.get {a b : DSto} (h : Keep a b) {n : Nat} {o : DObj} (hn : 4 ≤ n) (e : a[n]? = some o) : b[n]? = some o := by
  obtain ⟨ν, h⟩ := h
  obtain ⟨m, rfl⟩ := Nat.exists_eq_add_of_le hn
  have hb : (b.drop 4)[m]? = b[4 + m]? := List.getElem?_drop
  have ha : (a.drop 4)[m]? = a[4 + m]? := List.getElem?_drop
  rw [← hb, h, List.getElem?_append_left, ha, e]
  have := (List.getElem?_eq_some_iff.mp (ha.trans e)).1
  exact this
theorem Src.len {st : DSto} (h : Src st) : 4 ≤ st.length := by
  obtain ⟨z, c, b, k, n, s, tl, rfl, _⟩ := h
  simp
theorem Src.app {st : DSto} (h : Src st) (ν : DSto) : Src (st ++ ν) := by
  obtain ⟨z, c, b, k, n, s, tl, rfl, e⟩ := h
  exact ⟨z, c, b, k, n, s, tl ++ ν, by simp, e⟩
theorem Src.keepApp {st : DSto} (h : Src st) (ν : DSto) : Src (st ++ ν) ∧ Keep st (st ++ ν) := ⟨h.app ν, .app ν h.len⟩
theorem szl : sizeLine = 16777216 := rfl
theorem keep_4 {a b c d a' b' c' d' : DObj} {tl : DSto} : Keep (a :: b :: c :: d :: tl) (a' :: b' :: c' :: d' :: tl) := ⟨[], by simp⟩
theorem draw_ok {st : DSto} {m : Int} (h : Src st) (h0 : 0 < m) (h1 : m < 1073741824) : ∃ v st', G_law_draw [.ref 3, .int m] st = .ok (.int v) st' ∧ 0 ≤ v ∧ v < m ∧ Src st' ∧ Keep st st' := by
  obtain ⟨z, c, b, k, n, s, tl, rfl, hl⟩ := h
  unfold G_law_draw
  rw [bodyF_ap (n := 2) rfl]
  by_cases hk : k < c.length
  · have hb : k < b.length := by omega
    have e1 : (List.map D.int c)[k]? = some (.int c[k]) := by rw [List.getElem?_map, List.getElem?_eq_getElem hk]; rfl
    have e2 : (List.map D.bl b)[k]? = some (.bl b[k]) := by rw [List.getElem?_map, List.getElem?_eq_getElem hb]; rfl
    have n0 : 0 ≤ c[k] % m := Int.emod_nonneg _ (by omega)
    have n1 : c[k] % m < m := Int.emod_lt_of_pos _ h0
    have e4 : ((k : Int) + 1) = ((k + 1 : Nat) : Int) := by omega
    by_cases q : b[k] = true ∧ ¬ (c[k] / m = 0)
    · refine ⟨c[k] % m, z :: .lst ((c.set k (c[k] / m)).map D.int) :: .lst (b.map D.bl) :: .lst [.ref 1, .ref 2, .int k, .int n, .int s] :: tl, ?_, n0, n1, ⟨z, _, b, k, n, s, tl, rfl, by simpa using hl⟩, keep_4⟩
      simp [den_law_draw, ixO, itemsD, lenO, hk, atI_nat, e1, e2, fdivO_int, modO_int, h0, h1, setLO, ixN, q.1, q.2]
    · refine ⟨c[k] % m, z :: .lst ((c.set k (c[k] / m)).map D.int) :: .lst (b.map D.bl) :: .lst [.ref 1, .ref 2, .int ((k + 1 : Nat) : Int), .int n, .int s] :: tl, ?_, n0, n1, ⟨z, _, b, k + 1, n, s, tl, rfl, by simpa using hl⟩, keep_4⟩
      have q' : b[k] = false ∨ (b[k] = true ∧ c[k] / m = 0) := by
        cases hb' : b[k] with
        | false => exact .inl rfl
        | true => exact .inr ⟨rfl, Classical.byContradiction fun w => q ⟨hb', w⟩⟩
      rcases q' with q | q
      · simp [den_law_draw, ixO, itemsD, lenO, hk, atI_nat, e1, e2, fdivO_int, modO_int, h0, h1, setLO, ixN, q]
      · simp [den_law_draw, ixO, itemsD, lenO, hk, atI_nat, e1, e2, fdivO_int, modO_int, h0, h1, setLO, ixN, q.1, q.2]
  · by_cases hs : s = 0
    · refine ⟨0, z :: .lst (c.map D.int) :: .lst (b.map D.bl) :: .lst [.ref 1, .ref 2, .int k, .int n, .int s] :: tl, ?_, Int.le_refl _, h0, ⟨z, c, b, k, n, s, tl, rfl, hl⟩, keep_4⟩
      simp [den_law_draw, ixO, itemsD, lenO, hk, hs]
    · have hsq : ∀ (st : DSto) (e : Int), mulO (.int (e % 2147483647)) (.int (e % 2147483647)) st = some (.int (e % 2147483647 * (e % 2147483647)), st) := fun st e => by
        have a0 : 0 ≤ e % 2147483647 := Int.emod_nonneg _ (by decide)
        have a1 : e % 2147483647 < 2147483647 := Int.emod_lt_of_pos _ (by decide)
        rw [mulO_int, if_pos (.inl ⟨by omega, by omega⟩)]
      refine ⟨(s + (n + 1) * 7919) * 48271 % 2147483647 * ((s + (n + 1) * 7919) * 48271 % 2147483647) % 998244353 / 7 % m, z :: .lst (c.map D.int) :: .lst (b.map D.bl) :: .lst [.ref 1, .ref 2, .int k, .int (n + 1), .int s] :: tl, ?_, Int.emod_nonneg _ (by omega), Int.emod_lt_of_pos _ h0, ⟨z, c, b, k, n + 1, s, tl, rfl, hl⟩, keep_4⟩
      simp [den_law_draw, ixO, itemsD, lenO, hk, hs, setLO, ixN, hsq, mulO_int, modO_int, fdivO_int, h0]
@[simp] theorem stepE_ap {t : DenT} {e : Den} {ρ : DEnv} {acc : List D} {st : DSto} : stepE t e ρ acc st = match t ρ st with
  | .ok true st2 => match e ρ st2 with
    | .ok y st3 => if acc.length < sizeLine then some (acc ++ [y], st3) else none
    | _ => none
  | .ok false st2 => some (acc, st2)
  | _ => none := id rfl
@[simp] theorem stepC_ap {t : DenT} {di : DenI} {vs : List Nat} {g : DenG} {step : DEnv → List D → DSto → Option (List D × DSto)} {ρ : DEnv} {acc : List D} {st : DSto} : stepC t di vs g step ρ acc st = match t ρ st with
  | .ok true st2 => match di ρ st2 with
    | .ok (src, chk) st3 => compL chk vs g step ρ src acc st3
    | _ => none
  | .ok false st2 => some (acc, st2)
  | _ => none := id rfl
@[simp] theorem wipeE_nil {ρ : DEnv} : wipeE ρ [] = ρ := id rfl
@[simp] theorem wipeE_cons {ρ : DEnv} {v : Nat} {vs : List Nat} : wipeE ρ (v :: vs) = (wipeE ρ vs).set v none := id rfl
@[simp] theorem chkB_nil {st : DSto} : chkB [] st = true := id rfl
@[simp] theorem chkB_cons {st : DSto} {p : Nat × DObj} {c : Chk} : chkB (p :: c) st = (decide (st[p.1]? = some p.2) && chkB c st) := id rfl
theorem compL_nil {c : Chk} {vs : List Nat} {g : DenG} {step : DEnv → List D → DSto → Option (List D × DSto)} {ρ : DEnv} {acc : List D} {st : DSto} : compL c vs g step ρ [] acc st = if chkB c st = true then some (acc, st) else none := by unfold compL; rfl
theorem compL_cons {c : Chk} {vs : List Nat} {g : DenG} {step : DEnv → List D → DSto → Option (List D × DSto)} {ρ : DEnv} {x : D} {xs acc : List D} {st : DSto} : compL c vs g step ρ (x :: xs) acc st = if chkB c st = true then (match g x (wipeE ρ vs) st with
      | none => none
      | some (ρ1, st1) => match step ρ1 acc st1 with
        | none => none
        | some (acc2, st2) => compL c vs g step ρ xs acc2 st2) else none := by rw [compL] <;> rfl
/-- a comprehension that leaves the store as it is -/
theorem compL_fm {c : Chk} {vs : List Nat} {g : DenG} {step : DEnv → List D → DSto → Option (List D × DSto)} {ρ : DEnv} {st : DSto} (f : D → List D) (hc : chkB c st = true) : ∀ (xs acc : List D), (∀ x ∈ xs, (f x).length ≤ 1) →
    (∀ x ∈ xs, ∀ acc, acc.length < sizeLine → ∃ ρ1, g x (wipeE ρ vs) st = some (ρ1, st) ∧ step ρ1 acc st = some (acc ++ f x, st)) → acc.length + xs.length ≤ sizeLine → compL c vs g step ρ xs acc st = some (acc ++ xs.flatMap f, st)
  | [], acc, _, _, _ => by rw [compL_nil, if_pos hc]; simp
  | x :: xs, acc, hf, h, hl => by
    simp only [List.length_cons] at hl
    obtain ⟨ρ1, e1, e2⟩ := h x (List.mem_cons_self ..) acc (by omega)
    have h1 := hf x (List.mem_cons_self ..)
    rw [compL_cons, if_pos hc, e1]
    dsimp only
    rw [e2]
    dsimp only
    rw [compL_fm f hc xs _ (fun y hy => hf y (List.mem_cons_of_mem _ hy)) (fun y hy => h y (List.mem_cons_of_mem _ hy)) (by rw [List.length_append]; omega)]
    simp
theorem compL_map {c : Chk} {vs : List Nat} {g : DenG} {step : DEnv → List D → DSto → Option (List D × DSto)} {ρ : DEnv} {st : DSto} (f : D → D) (xs : List D) (hc : chkB c st = true)
    (h : ∀ x ∈ xs, ∀ acc : List D, acc.length < sizeLine → ∃ ρ1, g x (wipeE ρ vs) st = some (ρ1, st) ∧ step ρ1 acc st = some (acc ++ [f x], st)) (hl : xs.length ≤ sizeLine) : compL c vs g step ρ xs [] st = some (xs.map f, st) := by
  rw [compL_fm (fun x => [f x]) hc xs [] (fun _ _ => by simp) h (by simpa using hl), List.map_eq_flatMap]
  rfl
/-- .. with an invariant of what was done -/
theorem compL_inv {c : Chk} {vs : List Nat} {g : DenG} {step : DEnv → List D → DSto → Option (List D × DSto)} {ρ : DEnv} (I : List D → List D → DSto → Prop) : ∀ (xs pre acc : List D) (st : DSto), I pre acc st → (∀ pre acc st, I pre acc st → chkB c st = true) →
    (∀ p x q acc st, pre ++ xs = p ++ x :: q → I p acc st → ∃ ρ1 st1 acc' st', g x (wipeE ρ vs) st = some (ρ1, st1) ∧ step ρ1 acc st1 = some (acc', st') ∧ I (p ++ [x]) acc' st') → ∃ acc' st', compL c vs g step ρ xs acc st = some (acc', st') ∧ I (pre ++ xs) acc' st'
  | [], pre, acc, st, i, hc, _ => ⟨acc, st, by rw [compL_nil, if_pos (hc _ _ _ i)], by simpa using i⟩
  | x :: xs, pre, acc, st, i, hc, h => by
    obtain ⟨ρ1, st1, acc', st', e1, e2, i'⟩ := h pre x xs acc st rfl i
    obtain ⟨a2, st2, e3, i2⟩ := compL_inv I xs (pre ++ [x]) acc' st' i' hc (fun p y q acc st e => h p y q acc st (by simpa using e))
    refine ⟨a2, st2, ?_, by simpa using i2⟩
    rw [compL_cons, if_pos (hc _ _ _ i), e1]
    dsimp only
    rw [e2]
    exact e3
theorem forL_nil {c : Chk} {g : DenG} {b : DenS} {ρ : DEnv} {st : DSto} : forL c g b [] ρ st = if chkB c st = true then .nx ρ st else .bad := by rw [forL]
theorem forL_cons {c : Chk} {g : DenG} {b : DenS} {x : D} {xs : List D} {ρ : DEnv} {st : DSto} : forL c g b (x :: xs) ρ st = if chkB c st = true then (match g x ρ st with
      | none => .bad
      | some (ρ1, st1) => match b ρ1 st1 with
        | .nx ρ2 st2 => forL c g b xs ρ2 st2
        | .ct ρ2 st2 => forL c g b xs ρ2 st2
        | .bk ρ2 st2 => .nx ρ2 st2
        | .rt d st2 => .rt d st2
        | .exc c fs ρ2 st2 => .exc c fs ρ2 st2
        | .bad => .bad) else .bad := by rw [forL] <;> rfl
/-- a loop that runs to its end -/
theorem forL_inv {c : Chk} {g : DenG} {b : DenS} (I : List D → DEnv → DSto → Prop) : ∀ (xs pre : List D) (ρ : DEnv) (st : DSto), I pre ρ st → (∀ pre ρ st, I pre ρ st → chkB c st = true) →
    (∀ p x q ρ st, pre ++ xs = p ++ x :: q → I p ρ st → ∃ ρ1 st1 ρ2 st2, g x ρ st = some (ρ1, st1) ∧ (b ρ1 st1 = .nx ρ2 st2 ∨ b ρ1 st1 = .ct ρ2 st2) ∧ I (p ++ [x]) ρ2 st2) → ∃ ρ' st', forL c g b xs ρ st = .nx ρ' st' ∧ I (pre ++ xs) ρ' st'
  | [], pre, ρ, st, i, hc, _ => ⟨ρ, st, by rw [forL_nil, if_pos (hc _ _ _ i)], by simpa using i⟩
  | x :: xs, pre, ρ, st, i, hc, h => by
    obtain ⟨ρ1, st1, ρ2, st2, e1, e2, i'⟩ := h pre x xs ρ st rfl i
    obtain ⟨a2, st3, e3, i2⟩ := forL_inv I xs (pre ++ [x]) ρ2 st2 i' hc (fun p y q ρ st e => h p y q ρ st (by simpa using e))
    refine ⟨a2, st3, ?_, by simpa using i2⟩
    rw [forL_cons, if_pos (hc _ _ _ i), e1]
    dsimp only
    rcases e2 with e2 | e2 <;> (rw [e2]; exact e3)
theorem cut_all {xs : List D} {k : Nat} (h : xs.length ≤ k) : cutD xs none (some (k : Int)) = xs := by
  unfold cutD
  rw [HT.sIx_none, HT.sIx_nat, Nat.min_eq_right h]
  simp
theorem intsD_map : ∀ ns : List Int, intsD (ns.map D.int) = some ns
  | [] => rfl
  | n :: ns => by simp [intsD, intsD_map ns]
/-- the source is made -/
theorem source_ok (ns : List Int) (hl : ns.length ≤ 63) : ∃ st, G_law_source [.scr ns] [] = .ok (.ref 3) st ∧ Src st ∧ st.length = 4 := by
  have hz : (ns.map D.int).length ≤ sizeLine := by rw [List.length_map]; exact Nat.le_trans hl (by decide)
  have e0 : cutD (List.map D.int ns) none (some 63) = ns.map D.int := cut_all (k := 63) (by simpa using hl)
  refine ⟨[.lst (ns.map D.int), .lst (ns.map D.int), .lst ((ns.map fun n => decide (10 ^ 18 ≤ n)).map D.bl), .lst [.ref 1, .ref 2, .int (0 : Nat), .int 0, .int (ns.sum % 1000003)]], ?_, ⟨_, ns, _, 0, 0, _, [], rfl, by simp⟩, rfl⟩
  unfold G_law_source
  rw [bodyF_ap (n := 1) rfl]
  have c1 : ∀ (c : Chk) (ρ : DEnv) (st : DSto), chkB c st = true → ρ.length = 3 → compL c [2] (gdName 2) (stepE dYes (dB' intO (dCons (dVar 2) dNil))) ρ (ns.map D.int) [] st = some (ns.map D.int, st) := fun c ρ st hc hr => by
    rw [compL_map id _ hc (fun x hx acc ha => ?_) hz]
    · simp
    · obtain ⟨n, _, rfl⟩ := List.mem_map.mp hx
      exact ⟨_, rfl, by simp [hr, ha]⟩
  have c2 : ∀ (c : Chk) (ρ : DEnv) (st : DSto), chkB c st = true → ρ.length = 3 → compL c [2] (gdName 2) (stepE dYes (dOp geO (dVar 2) (dOp powO (dC (.int 10)) (dC (.int 18))))) ρ (ns.map D.int) [] st = some ((ns.map fun n => decide (10 ^ 18 ≤ n)).map D.bl, st) := fun c ρ st hc hr => by
    rw [compL_map (fun x => match x with | .int n => .bl (decide (10 ^ 18 ≤ n)) | _ => .non) _ hc (fun x hx acc ha => ?_) hz]
    · simp
    · obtain ⟨n, _, rfl⟩ := List.mem_map.mp hx
      exact ⟨_, rfl, by simp [hr, ha, powO]⟩
  simp [den_law_source, slO, e0, c1, c2, sumO, intsD_map, modO_int, mkLst, szl]
/-! ### names -/
theorem mul_one (c : Nat) (n : Nat) : Txt.mul ⟨#[c]⟩ (n : Int) = ⟨Array.replicate n c⟩ := by
  rw [← List.toArray_replicate]
  have hf : ∀ (m : Nat) (a : Array Nat), (List.replicate m #[c]).foldl (· ++ ·) a = a ++ (List.replicate m c).toArray := by
    intro m
    induction m with
    | zero => intro a; simp
    | succ m ih =>
      intro a
      rw [List.replicate_succ, List.foldl_cons, ih, List.replicate_succ]
      apply Array.ext'
      simp
  unfold Txt.mul
  by_cases h : (n : Int) < 1
  · rw [if_pos h]
    obtain rfl : n = 0 := by omega
    rfl
  · rw [if_neg h]
    by_cases h1 : ((n : Int) == 1 || (Str.length ⟨#[c]⟩) == 0) = true
    · rw [if_pos h1]
      have : n = 1 := by
        simp [Str.length] at h1
        omega
      subst this
      rfl
    · rw [if_neg h1]
      simp [hf]
theorem letters : (PySem.Str.ofString "abcdefghijklmnopqrstuvwxyz").cps.toList = (List.range 26).map (· + 97) := by decide +kernel
theorem letters_len : (PySem.Str.ofString "abcdefghijklmnopqrstuvwxyz").length = 26 := by decide +kernel
theorem letter_at (st : DSto) {i : Int} (h0 : 0 ≤ i) (h1 : i < 26) : ixO (.str (PySem.Str.ofString "abcdefghijklmnopqrstuvwxyz")) (.int i) st = some (.str ⟨#[i.toNat + 97]⟩, st) := by
  obtain ⟨n, rfl⟩ := Int.eq_ofNat_of_zero_le h0
  have hn : n < 26 := by omega
  unfold ixO
  simp only [letters_len, letters]
  rw [if_pos (by decide), atI_nat]
  simp [hn]
def nameOf (f a l b : Nat) : Str := ⟨(List.replicate a f ++ l :: List.replicate b f).toArray⟩
theorem nameOf_eq (f a l b : Nat) : (⟨Array.replicate a f⟩ : Str) ++ ⟨#[l]⟩ ++ ⟨Array.replicate b f⟩ = nameOf f a l b := by
  rw [← List.toArray_replicate, ← List.toArray_replicate]
  unfold nameOf
  show (⟨((List.replicate a f).toArray ++ #[l]) ++ (List.replicate b f).toArray⟩ : Str) = ⟨_⟩
  congr 1
  apply Array.ext'
  simp
theorem nameOf_len (f a l b : Nat) : (nameOf f a l b).length = a + 1 + b := by
  simp [nameOf, Str.length]; omega
theorem nameOf_ok {f a l b : Nat} (hf : f < 200) (hl : l < 200) : PyData.strOk (nameOf f a l b) = true := by
  unfold PyData.strOk nameOf
  simp
  omega
theorem nameOf_ne {f a l b l' b' : Nat} (h : l ≠ l') : nameOf f a l b ≠ nameOf f a l' b' := by
  intro e
  unfold nameOf at e
  have e1 := congrArg (fun s : Str => s.cps.toList[a]?) e
  simp at e1
  exact h e1
theorem names_ok {st : DSto} {count : Nat} (h : Src st) (hc : count ≤ 26) : ∃ (names : List Str) (n : Nat) (st' : DSto), G_law_names [.ref 3, .int count] st = .ok (.ref n) st' ∧ 4 ≤ n ∧ st'[n]? = some (.lst (names.map D.str)) ∧ names.length = count ∧ names.Nodup ∧
    (∀ x ∈ names, PyData.strOk x = true ∧ 1 ≤ x.length ∧ x.length ≤ 9) ∧ Src st' ∧ Keep st st' := by
  obtain ⟨ah, s1, e1, a0, a1, h1, k1⟩ := draw_ok (m := 4) h (by decide) (by decide)
  obtain ⟨be, s2, e2, b0, b1, h2, k2⟩ := draw_ok (m := 4) h1 (by decide) (by decide)
  obtain ⟨un, s3, e3, u0, u1, h3, k3⟩ := draw_ok (m := 2) h2 (by decide) (by decide)
  obtain ⟨fi, s4, e4, f0, f1, h4, k4⟩ := draw_ok (m := 26) h3 (by decide) (by decide)
  obtain ⟨fl, s5, e5, g0, g1, h5, k5⟩ := draw_ok (m := 26) h4 (by decide) (by decide)
  obtain ⟨ah, rfl⟩ := Int.eq_ofNat_of_zero_le a0
  obtain ⟨be, rfl⟩ := Int.eq_ofNat_of_zero_le b0
  obtain ⟨un, rfl⟩ := Int.eq_ofNat_of_zero_le u0
  obtain ⟨fi, rfl⟩ := Int.eq_ofNat_of_zero_le f0
  obtain ⟨fl, rfl⟩ := Int.eq_ofNat_of_zero_le g0
  have kk := (((k1.trans k2).trans k3).trans k4).trans k5
  have hk := h5.keepApp [.lst (((List.range count).map fun k => nameOf (fl + 97) ah ((fi + k) % 26 + 97) (be + un * (k % 3))).map D.str)]
  refine ⟨(List.range count).map fun k => nameOf (fl + 97) ah ((fi + k) % 26 + 97) (be + un * (k % 3)), s5.length, _, ?_, h5.len, by simp, by simp, ?_, ?_, hk.1, kk.trans hk.2⟩
  · unfold G_law_names
    rw [bodyF_ap (n := 2) rfl]
    unfold den_law_names
    have la := letter_at
    generalize PySem.Str.ofString "abcdefghijklmnopqrstuvwxyz" = L at la ⊢
    have hcomp : ∀ ρ : DEnv, ρ = [some (.ref 3), some (.int count), some (.str L), some (.int ah), some (.int be), some (.int un), some (.int fi), some (.str ⟨#[fl + 97]⟩), none] →
        compL [] [8] (gdName 8) (stepE dYes (dOp addO (dOp addO (dOp mulO (dVar 7) (dVar 3)) (dOp ixO (dVar 2) (dOp modO (dB' intO (dCons (dOp addO (dVar 6) (dVar 8)) dNil)) (dC (D.int 26)))))
          (dOp mulO (dVar 7) (dOp addO (dVar 4) (dOp mulO (dVar 5) (dOp modO (dB' intO (dCons (dVar 8) dNil)) (dC (D.int 3)))))))) ρ ((List.range count).map fun k : Nat => D.int (k : Int)) [] s5 =
        some (((List.range count).map fun k => nameOf (fl + 97) ah ((fi + k) % 26 + 97) (be + un * (k % 3))).map D.str, s5) := by
      rintro ρ rfl
      rw [compL_map (fun x => match x with | .int k => .str (nameOf (fl + 97) ah ((fi + k.toNat) % 26 + 97) (be + un * (k.toNat % 3))) | _ => .non) _ rfl (fun x hx acc ha => ?_) (by simp; exact Nat.le_trans hc (by decide))]
      · simp
      · obtain ⟨k, hk, rfl⟩ := List.mem_map.mp hx
        refine ⟨_, rfl, ?_⟩
        have l1 : un * (k % 3) ≤ 1 * 2 := Nat.mul_le_mul (by omega) (by omega)
        obtain ⟨P, hP⟩ : ∃ P, P = be + un * (k % 3) := ⟨_, rfl⟩
        obtain ⟨Q, hQ⟩ : ∃ Q, Q = (fi + k) % 26 := ⟨_, rfl⟩
        have q1 : ((fi : Int) + (k : Int)) % 26 = (Q : Int) := by omega
        have q2 : (be : Int) + (un : Int) * ((k : Int) % 3) = (P : Int) := by subst hP; simp
        have m1 : ∀ n : Nat, n ≤ 1000 → mulO (.str ⟨#[fl + 97]⟩) (.int (n : Int)) s5 = some (.str ⟨Array.replicate n (fl + 97)⟩, s5) := fun n hn => by
          unfold mulO
          dsimp only
          rw [if_pos ⟨(by show 1 ≤ 16; decide), by omega, by omega⟩, mul_one]
        have m2 : mulO (.int (un : Int)) (.int ((k : Int) % 3)) s5 = some (.int ((un : Int) * ((k : Int) % 3)), s5) := by rw [mulO_int, if_pos (.inl ⟨by omega, by omega⟩)]
        have l2 := la s5 (i := (Q : Int)) (by omega) (by omega)
        have a1 : addO (.str ⟨Array.replicate ah (fl + 97)⟩) (.str ⟨#[Q + 97]⟩) s5 = some (.str ((⟨Array.replicate ah (fl + 97)⟩ : Str) ++ ⟨#[Q + 97]⟩), s5) := addO_str _ (by simp [Str.length, szl]; omega)
        have a2 : addO (.str ((⟨Array.replicate ah (fl + 97)⟩ : Str) ++ ⟨#[Q + 97]⟩)) (.str ⟨Array.replicate P (fl + 97)⟩) s5 = some (.str (nameOf (fl + 97) ah (Q + 97) P), s5) := by
          rw [← nameOf_eq]
          refine addO_str _ ?_
          show ((Array.replicate ah (fl + 97) ++ #[Q + 97]).size + (Array.replicate P (fl + 97)).size) ≤ _
          simp [szl]; omega
        simp only [Int.toNat_natCast] at l2
        simp [modO_int, m1 ah (by omega), q1, l2, m2, q2, m1 P (by omega), ha, a1, a2, ← hP, ← hQ]
    simp [e1, e2, e3, e4, e5, la _ g0 g1, rngO_0 (n := count) (by omega)]
    rw [hcomp _ rfl]
    simp
  · unfold List.Nodup
    rw [List.pairwise_map]
    refine List.pairwise_lt_range.imp_of_mem fun {a b} ha hb hab => nameOf_ne ?_
    have ha := List.mem_range.mp ha
    have hb := List.mem_range.mp hb
    omega
  · intro x hx
    obtain ⟨k, hk, rfl⟩ := List.mem_map.mp hx
    rw [nameOf_len]
    refine ⟨nameOf_ok (by omega) (by omega), by omega, ?_⟩
    have : un * (k % 3) ≤ 1 * 2 := Nat.mul_le_mul (by omega) (by omega)
    omega
end FW

set_option Elab.async false
set_option linter.all false
set_option maxRecDepth 100000
set_option maxHeartbeats 4000000
namespace FW
open PySem PySem.Spec PyProof.Rows L2

def den_Plan_d_initd_ : DenS :=
  (dSetF 0 0 (dVar 0) (dLc (dISeq (dVar 1)) [2] (gdName 2) (stepE (dB (dOp gtO (dB' lenO (dCons (dVar 2) dNil)) (dC (.int 0)))) (dB' tupleO (dCons (dVar 2) dNil)))))
def G_Plan_d_initd_ : FnD := bodyStar 1 3 den_Plan_d_initd_

def den_Plan_walks : DenS :=
  (dRet (dB' tupleO (dCons (dLc (dISeq (dFld 0 (dVar 0))) [1, 2] (gdName 1) (stepC dYes (dISeq (dVar 1)) [2] (gdName 2) (stepE dYes (dVar 2)))) dNil)))
def G_Plan_walks : FnD := bodyF 1 3 den_Plan_walks

def den_Plan_d_addd_ : DenS :=
  (dRet (dMake 0 G_Plan_d_initd_ (dStar (dFld 0 (dVar 0)) (dStar (dFld 0 (dVar 1)) dNil))))
def G_Plan_d_addd_ : FnD := bodyF 2 2 den_Plan_d_addd_

def den_Plan_d_eqd_ : DenS :=
  (dRet (dAndV (dIsC 0 true (dVar 1)) (dOp eqO (dFld 0 (dVar 0)) (dFld 0 (dVar 1)))))
def G_Plan_d_eqd_ : FnD := bodyF 2 2 den_Plan_d_eqd_

def den_Plan_d_lend_ : DenS :=
  (dRet (dB' lenO (dCons (dFld 0 (dVar 0)) dNil)))
def G_Plan_d_lend_ : FnD := bodyF 1 1 den_Plan_d_lend_

def den_Plan_d_containsd_ : DenS :=
  (dRet (dOp inO (dVar 1) (dProp 0 G_Plan_walks (dVar 0))))
def G_Plan_d_containsd_ : FnD := bodyF 2 2 den_Plan_d_containsd_

def den_Plan_d_strd_ : DenS :=
  (dRet (dJoin (dC (.str (PySem.Str.ofString " + "))) (dLc (dISeq (dFld 0 (dVar 0))) [1] (gdName 1) (stepE dYes (dJoin (dC (.str (PySem.Str.ofString "|"))) (dVar 1))))))
def G_Plan_d_strd_ : FnD := bodyF 1 2 den_Plan_d_strd_

def den_Plan_d_ord_ : DenS :=
  (dRet (dMake 0 G_Plan_d_initd_ (dCons (dOp addO (dProp 0 G_Plan_walks (dVar 0)) (dProp 0 G_Plan_walks (dVar 1))) dNil)))
def G_Plan_d_ord_ : FnD := bodyF 2 2 den_Plan_d_ord_

def den_Plan_d_muld_ : DenS :=
  (dSeq (dAsg 2 (dOp mulO (dFld 0 (dVar 0)) (dVar 1)))
    (dRet (dMake 0 G_Plan_d_initd_ (dStar (dVar 2) dNil))))
def G_Plan_d_muld_ : FnD := bodyF 2 3 den_Plan_d_muld_

def den_Plan_d_rmuld_ : DenS :=
  (dSeq (dAsg 2 (dOp mulO (dFld 0 (dVar 0)) (dVar 1)))
    (dRet (dMake 0 G_Plan_d_initd_ (dStar (dVar 2) dNil))))
def G_Plan_d_rmuld_ : FnD := bodyF 2 3 den_Plan_d_rmuld_

def den_Plan_apart : DenS :=
  (dSeq (dAsg 1 (dLc (dISeq (dVar 0)) [2] (gdName 2) (stepE dYes (dTup (dCons (dVar 2) dNil)))))
    (dRet (dMake 0 G_Plan_d_initd_ (dStar (dVar 1) dNil))))
def G_Plan_apart : FnD := bodyStar 0 3 den_Plan_apart

def den_Plan_together : DenS :=
  (dRet (dMake 0 G_Plan_d_initd_ (dCons (dVar 0) dNil)))
def G_Plan_together : FnD := bodyStar 0 1 den_Plan_together

/-! ### lists of names -/
def tupD (g : List Str) : D := .tup (g.map D.str)
/-- the names of g, as a tuple or as a list -/
def GrpD (st : DSto) (d : D) (g : List Str) : Prop := d = tupD g ∨ ∃ n, d = .ref n ∧ 4 ≤ n ∧ st[n]? = some (.lst (g.map D.str))
def LstAt (st : DSto) (n : Nat) (xs : List D) : Prop := 4 ≤ n ∧ st[n]? = some (.lst xs)
theorem LstAt.keep {a b : DSto} {n : Nat} {xs : List D} (h : LstAt a n xs) (k : Keep a b) : LstAt b n xs := ⟨h.1, k.get h.1 h.2⟩
theorem GrpD.keep {a b : DSto} {d : D} {g : List Str} (h : GrpD a d g) (k : Keep a b) : GrpD b d g := by
  rcases h with h | ⟨n, h, h4, e⟩
  · exact .inl h
  · exact .inr ⟨n, h, h4, k.get h4 e⟩
theorem GrpD.items {st : DSto} {d : D} {g : List Str} (h : GrpD st d g) : itemsD d st = some (g.map D.str) := by
  rcases h with rfl | ⟨n, rfl, _, e⟩
  · rfl
  · unfold itemsD; dsimp only; rw [e]
theorem GrpD.len {st : DSto} {d : D} {g : List Str} (h : GrpD st d g) : lenO [d] st = some (.int g.length, st) := by
  rcases h with rfl | ⟨n, rfl, _, e⟩
  · simp [tupD, lenO]
  · simp [lenO, e]
theorem GrpD.tuple {st : DSto} {d : D} {g : List Str} (h : GrpD st d g) : tupleO [d] st = some (tupD g, st) := by
  unfold tupleO
  dsimp only
  rw [h.items]; rfl
abbrev Grps (st : DSto) (ds : List D) (gs : List (List Str)) : Prop := Paired (GrpD st) ds gs
theorem Grps.keep {a b : DSto} (k : Keep a b) : ∀ {ds : List D} {gs : List (List Str)}, Grps a ds gs → Grps b ds gs
  | _, _, .nil => .nil
  | _, _, .cons h t => .cons (h.keep k) (Grps.keep k t)
theorem Grps.len {st : DSto} : ∀ {ds : List D} {gs : List (List Str)}, Grps st ds gs → ds.length = gs.length
  | _, _, .nil => rfl
  | _, _, .cons h t => by simp [Grps.len t]
theorem grps_tup {st : DSto} : ∀ gs : List (List Str), Grps st (gs.map tupD) gs
  | [] => .nil
  | _ :: gs => .cons (.inl rfl) (grps_tup gs)
theorem Grps.app {st : DSto} {es : List D} {hs : List (List Str)} (k : Grps st es hs) : ∀ {ds : List D} {gs : List (List Str)}, Grps st ds gs → Grps st (ds ++ es) (gs ++ hs)
  | _, _, .nil => k
  | _, _, .cons h t => .cons h (Grps.app k t)
/-- without the empty ones -/
def ne (gs : List (List Str)) : List (List Str) := gs.filter fun g => decide (0 < g.length)
/-- the clean-up of groups, as the program and the law write it -/
def clD (i : Nat) : DEnv → List D → DSto → Option (List D × DSto) := stepE (dB (dOp gtO (dB' lenO (dCons (dVar i) dNil)) (dC (.int 0)))) (dB' tupleO (dCons (dVar i) dNil))
theorem clean_ok {c : Chk} {i : Nat} {ρ : DEnv} {st : DSto} (hi : i < ρ.length) (hc : chkB c st = true) : ∀ {ds : List D} {gs : List (List Str)} (acc : List D), Grps st ds gs → acc.length + ds.length ≤ sizeLine → compL c [i] (gdName i) (clD i) ρ ds acc st = some (acc ++ (ne gs).map tupD, st)
  | _, _, acc, .nil, _ => by rw [compL_nil, if_pos hc]; simp [ne]
  | d :: ds, g :: gs, acc, .cons h t, hl => by
    simp only [List.length_cons] at hl
    rw [compL_cons, if_pos hc]
    simp only [gdName_ap, wipeE_cons, wipeE_nil]
    have hz : acc.length < sizeLine := by omega
    have hv : ((ρ.set i none).set i (some d))[i]? = some (some d) := by simp [hi]
    have hs : clD i ((ρ.set i none).set i (some d)) acc st = some (acc ++ (ne [g]).map tupD, st) := by
      unfold clD
      simp only [stepE_ap, dB_ap, dOp_ap, dB'_ap, dCons_ap, dNil_ap, dVar_ap, hv, DRes.bind_ok, h.len, ofO_some, dC_ap, cmpI_int, h.tuple]
      by_cases hg : 0 < g.length
      · have : decide ((0 : Int) < (g.length : Int)) = true := decide_eq_true (by omega)
        simp [this, ne, hg, hz, h.tuple]
      · have : decide ((0 : Int) < (g.length : Int)) = false := decide_eq_false (by omega)
        simp [this, ne, hg]
    rw [hs]
    dsimp only
    rw [clean_ok hi hc _ t (by rw [List.length_append]; have : ((ne [g]).map tupD).length ≤ 1 := by rw [List.length_map]; exact List.length_filter_le _ [g]; ; omega)]
    rw [List.append_assoc, ← List.map_append]
    have e : ne [g] ++ ne gs = ne (g :: gs) := by unfold ne; rw [← List.filter_append]; rfl
    rw [e]
/-! ### plans -/
def PlanAt (st : DSto) (p : Nat) (gs : List (List Str)) : Prop := 4 ≤ p ∧ ∃ q, st[p]? = some (.ins 0 [(0, .ref q)]) ∧ LstAt st q (gs.map tupD)
theorem PlanAt.keep {a b : DSto} {p : Nat} {gs : List (List Str)} (h : PlanAt a p gs) (k : Keep a b) : PlanAt b p gs := by
  obtain ⟨h4, q, e, l⟩ := h
  exact ⟨h4, q, k.get h4 e, l.keep k⟩
theorem make_ok {st : DSto} {ds : List D} {gs : List (List Str)} (h4 : 4 ≤ st.length) (h : Grps st ds gs) (hl : ds.length ≤ sizeLine) :
    mkObj 0 G_Plan_d_initd_ ds st = .ok (.ref st.length) (st ++ [.ins 0 [(0, .ref (st.length + 1))], .lst ((ne gs).map tupD)]) := by
  have hk : Keep st (st ++ [.ins 0 []]) := .app _ h4
  have hc := clean_ok (c := []) (i := 2) (ρ := [some (.ref st.length), some (.tup ds), none]) (st := st ++ [.ins 0 []]) (by simp) rfl [] (h.keep hk) (by simpa using hl)
  unfold mkObj G_Plan_d_initd_ bodyStar
  rw [if_pos ⟨by simp, by simp; exact hl⟩, bodyF_ap (n := 2) (by simp)]
  unfold clD at hc
  simp [den_Plan_d_initd_, hc, setFld, putN, List.set_append]
/-- made behind st alone -/
def Lo (st st' : DSto) (r : Nat) : Prop := st.length ≤ r ∧ ∀ q, st'[r]? = some (.ins 0 [(0, .ref q)]) → st.length ≤ q
theorem Lo.le {a b c : DSto} {r : Nat} (h : Lo a b r) (k : c.length ≤ a.length) : Lo c b r := ⟨Nat.le_trans k h.1, fun q e => Nat.le_trans k (h.2 q e)⟩
theorem made' {st : DSto} {ds : List D} {gs : List (List Str)} (h4 : 4 ≤ st.length) (h : Grps st ds gs) (hl : ds.length ≤ sizeLine) : ∃ st', mkObj 0 G_Plan_d_initd_ ds st = .ok (.ref st.length) (st ++ st') ∧ PlanAt (st ++ st') st.length (ne gs) ∧ Lo st (st ++ st') st.length :=
  ⟨_, make_ok h4 h hl, ⟨h4, st.length + 1, by simp, by omega, by simp⟩, Nat.le_refl _, fun q e => by
    simp at e
    omega⟩
theorem made {st : DSto} {ds : List D} {gs : List (List Str)} (h4 : 4 ≤ st.length) (h : Grps st ds gs) (hl : ds.length ≤ sizeLine) : ∃ st', mkObj 0 G_Plan_d_initd_ ds st = .ok (.ref st.length) (st ++ st') ∧ PlanAt (st ++ st') st.length (ne gs) := by
  obtain ⟨ν, e, p, _⟩ := made' h4 h hl
  exact ⟨ν, e, p⟩
theorem app2 {a b : DSto} (ν : DSto) (h : b = a ++ ν) (h4 : 4 ≤ a.length) : Keep a b := by subst h; exact .app ν h4
/-- only added to -/
def Pre (st st' : DSto) : Prop := ∃ ν, st' = st ++ ν
theorem Pre.refl {st : DSto} : Pre st st := ⟨[], by simp⟩
theorem Pre.add {st : DSto} (ν : DSto) : Pre st (st ++ ν) := ⟨ν, rfl⟩
theorem Pre.trans {a b c : DSto} (h : Pre a b) (k : Pre b c) : Pre a c := by
  obtain ⟨n, rfl⟩ := h
  obtain ⟨m, rfl⟩ := k
  exact ⟨n ++ m, by simp⟩
theorem Pre.keep {a b : DSto} (h : Pre a b) (h4 : 4 ≤ a.length) : Keep a b := by obtain ⟨n, rfl⟩ := h; exact .app n h4
theorem Pre.len {a b : DSto} (h : Pre a b) : a.length ≤ b.length := by obtain ⟨n, rfl⟩ := h; simp
theorem Pre.src {a b : DSto} (h : Pre a b) (s : Src a) : Src b := by obtain ⟨n, rfl⟩ := h; exact s.app n
theorem PlanAt.isIns {st : DSto} {p : Nat} {gs : List (List Str)} (h : PlanAt st p gs) : isIns 0 (.ref p) st = true := by
  obtain ⟨_, q, e, _⟩ := h
  unfold FW.isIns; simp [e]
theorem PlanAt.fld {st : DSto} {p : Nat} {gs : List (List Str)} (h : PlanAt st p gs) : ∃ q, fldD 0 (.ref p) st = .ok (.ref q) st ∧ st[q]? = some (.lst (gs.map tupD)) := by
  obtain ⟨_, q, e, l⟩ := h
  exact ⟨q, by unfold fldD; simp [e, getN], l.2⟩
theorem items_ref {st : DSto} {q : Nat} {xs : List D} (h : st[q]? = some (.lst xs)) : itemsD (.ref q) st = some xs := by
  unfold itemsD; dsimp only; rw [h]
theorem ne_ne {gs : List (List Str)} (h : ∀ g ∈ gs, g ≠ []) : ne gs = gs := List.filter_eq_self.mpr fun g hg => decide_eq_true (List.length_pos_iff.mpr (h g hg))
theorem ne_of_ne (gs : List (List Str)) : ∀ g ∈ ne gs, g ≠ [] := fun g hg => by
  have := (List.mem_filter.mp hg).2
  exact List.length_pos_iff.mp (of_decide_eq_true this)
theorem ne_app (a b : List (List Str)) : ne (a ++ b) = ne a ++ ne b := List.filter_append ..
theorem add_ok {st : DSto} {p q : Nat} {a b : List (List Str)} (h4 : 4 ≤ st.length) (ha : PlanAt st p a) (hb : PlanAt st q b) (hl : a.length + b.length ≤ sizeLine) :
    ∃ st', G_Plan_d_addd_ [.ref p, .ref q] st = .ok (.ref st.length) st' ∧ Pre st st' ∧ PlanAt st' st.length (ne (a ++ b)) ∧ Lo st st' st.length := by
  obtain ⟨x, e1, l1⟩ := ha.fld
  obtain ⟨y, e2, l2⟩ := hb.fld
  obtain ⟨ν, e3, h3, h5⟩ := made' h4 ((grps_tup (st := st) b).app (grps_tup (st := st) a)) (by simp; exact hl)
  refine ⟨st ++ ν, ?_, .add ν, h3, h5⟩
  unfold G_Plan_d_addd_
  rw [bodyF_ap (n := 2) rfl]
  simp [den_Plan_d_addd_, e1, e2, items_ref l1, items_ref l2, e3]
/-- the walks of a plan -/
theorem walksL {c : Chk} {ρ : DEnv} {st : DSto} (hr : ρ.length = 3) (hc : chkB c st = true) : ∀ (gs : List (List Str)) (acc : List D), acc.length + gs.flatten.length ≤ sizeLine →
    compL c [1, 2] (gdName 1) (stepC dYes (dISeq (dVar 1)) [2] (gdName 2) (stepE dYes (dVar 2))) ρ (gs.map tupD) acc st = some (acc ++ gs.flatten.map D.str, st)
  | [], acc, _ => by rw [List.map_nil, compL_nil, if_pos hc]; simp
  | g :: gs, acc, hl => by
    simp only [List.flatten_cons, List.length_append] at hl
    have inner : ∀ ρ' : DEnv, ρ'.length = 3 → compL [] [2] (gdName 2) (stepE dYes (dVar 2)) ρ' (g.map D.str) acc st = some (acc ++ g.map D.str, st) := fun ρ' hr' => by
      rw [compL_fm (fun x => [x]) rfl (g.map D.str) acc (fun _ _ => by simp) (fun x hx a ha => ⟨_, rfl, by simp [hr', ha]⟩) (by simp; omega)]
      simp
    rw [List.map_cons, compL_cons, if_pos hc]
    simp only [gdName_ap, stepC_ap, dYes_ap, dISeq_ap, dVar_ap, wipeE_cons, wipeE_nil]
    have hv : (((ρ.set 2 none).set 1 none).set 1 (some (tupD g)))[1]? = some (some (tupD g)) := by simp [hr]
    simp only [hv, DRes.bind_ok]
    rw [show tupD g = D.tup (g.map D.str) from rfl]
    dsimp only
    rw [inner _ (by simp [hr])]
    dsimp only
    rw [walksL hr hc gs _ (by rw [List.length_append, List.length_map]; omega)]
    simp
theorem walks_ok {st : DSto} {p : Nat} {a : List (List Str)} (ha : PlanAt st p a) (hl : a.flatten.length ≤ sizeLine) : ∃ ν, G_Plan_walks [.ref p] st = .ok (tupD a.flatten) (st ++ ν) := by
  obtain ⟨x, e1, l1⟩ := ha.fld
  refine ⟨[.lst (a.flatten.map D.str)], ?_⟩
  unfold G_Plan_walks
  rw [bodyF_ap (n := 1) rfl]
  have hw := walksL (c := [(x, .lst (a.map tupD))]) (ρ := [some (.ref p), none, none]) (st := st) rfl (by simp [l1]) a [] (by simpa using hl)
  simp [-List.map_flatten, den_Plan_walks, e1, l1, hw, tupleO, itemsD, tupD]
theorem or_ok {st : DSto} {p q : Nat} {a b : List (List Str)} (h4 : 4 ≤ st.length) (ha : PlanAt st p a) (hb : PlanAt st q b) (hl : a.flatten.length + b.flatten.length ≤ sizeLine) :
    ∃ r st', G_Plan_d_ord_ [.ref p, .ref q] st = .ok (.ref r) st' ∧ Pre st st' ∧ PlanAt st' r (ne [a.flatten ++ b.flatten]) := by
  obtain ⟨n1, e1⟩ := walks_ok ha (by omega)
  have hb1 := hb.keep (Keep.app n1 h4)
  obtain ⟨n2, e2⟩ := walks_ok hb1 (by omega)
  have hq : addO (tupD a.flatten) (tupD b.flatten) (st ++ n1 ++ n2) = some (tupD (a.flatten ++ b.flatten), st ++ n1 ++ n2) := by
    unfold addO tupD
    dsimp only
    rw [if_pos (by rw [List.length_map, List.length_map]; exact hl), List.map_append]
  obtain ⟨ν, e3, h3⟩ := made (st := st ++ n1 ++ n2) (by simp; omega) (ds := [tupD (a.flatten ++ b.flatten)]) (gs := [a.flatten ++ b.flatten]) (.cons (.inl rfl) .nil) (by show 1 ≤ _; decide)
  refine ⟨_, st ++ n1 ++ n2 ++ ν, ?_, ⟨n1 ++ n2 ++ ν, by simp⟩, h3⟩
  unfold G_Plan_d_ord_
  rw [bodyF_ap (n := 2) rfl]
  simp only [den_Plan_d_ord_, dRet_ap, dMake_ap, dCons_ap, dNil_ap, dOp_ap, dProp_ap, dVar_ap, List.map_cons, List.map_nil, List.length_cons, List.length_nil, List.getElem?_cons_zero, List.getElem?_cons_succ, List.cons_append, DRes.bind_ok, ha.isIns, hb1.isIns, if_pos, e1, e2, hq, ofO_some, e3, toS_ok]
theorem mulL (st : DSto) {x k : Nat} {xs : List D} (h : st[x]? = some (.lst xs)) (hk : k ≤ 1000000) (hl : xs.length * k ≤ sizeLine) : mulO (.ref x) (.int (k : Int)) st = some (.ref st.length, st ++ [.lst (List.replicate k xs).flatten]) := by
  unfold mulO
  simp only [h]
  rw [if_pos ⟨by omega, by omega, by simpa using hl⟩]
  rfl
theorem rep_map (a : List (List Str)) (k : Nat) : (List.replicate k (a.map tupD)).flatten = ((List.replicate k a).flatten).map tupD := by
  rw [List.map_flatten, List.map_replicate]
theorem mul_ok {G : FnD} (hG : G = G_Plan_d_muld_ ∨ G = G_Plan_d_rmuld_) {st : DSto} {p k : Nat} {a : List (List Str)} (h4 : 4 ≤ st.length) (ha : PlanAt st p a) (hk : k ≤ 1000000) (hl : a.length * k ≤ sizeLine) :
    ∃ r st', G [.ref p, .int (k : Int)] st = .ok (.ref r) st' ∧ Pre st st' ∧ PlanAt st' r (ne (List.replicate k a).flatten) := by
  obtain ⟨x, e1, l1⟩ := ha.fld
  have hm := mulL st l1 hk (by simpa using hl)
  rw [rep_map] at hm
  have hz : ((List.replicate k a).flatten.map tupD).length ≤ sizeLine := by
    rw [List.length_map, List.length_flatten, List.map_replicate, List.sum_replicate_nat, Nat.mul_comm]; exact hl
  obtain ⟨ν, e3, h3⟩ := made (st := st ++ [.lst ((List.replicate k a).flatten.map tupD)]) (by simp; omega) (grps_tup (List.replicate k a).flatten) hz
  have hi : itemsD (.ref st.length) (st ++ [.lst ((List.replicate k a).flatten.map tupD)]) = some ((List.replicate k a).flatten.map tupD) := items_ref (by simp)
  refine ⟨_, _, ?_, ⟨_, by rw [List.append_assoc]⟩, h3⟩
  rcases hG with rfl | rfl
  · unfold G_Plan_d_muld_
    rw [bodyF_ap (n := 2) rfl]
    simp [-List.map_flatten, den_Plan_d_muld_, e1, hm, hi, e3]
  · unfold G_Plan_d_rmuld_
    rw [bodyF_ap (n := 2) rfl]
    simp [-List.map_flatten, den_Plan_d_rmuld_, e1, hm, hi, e3]
theorem plen_ok {st : DSto} {p : Nat} {a : List (List Str)} (ha : PlanAt st p a) : G_Plan_d_lend_ [.ref p] st = .ok (.int a.length) st := by
  obtain ⟨x, e1, l1⟩ := ha.fld
  unfold G_Plan_d_lend_
  rw [bodyF_ap (n := 1) rfl]
  simp [den_Plan_d_lend_, e1, lenO, l1]
theorem inO_tup (st : DSto) (x : Str) (g : List Str) : inO (.str x) (tupD g) st = some (.bl (g.contains x), st) := by
  have h : (g.map D.str).all flatD = true := by simp [flatD]
  unfold inO memO tupD
  dsimp only
  rw [if_pos ⟨rfl, h⟩]
  have hh : ∀ g : List Str, inV (vOf (.str x)) ((g.map D.str).map vOf) = g.contains x := by
    intro g
    induction g with
    | nil => rfl
    | cons y g ih =>
      rw [List.contains_cons, ← ih]
      show (y == x || _) = _
      congr 1
      rw [Bool.eq_iff_iff, beq_iff_eq, beq_iff_eq]
      exact eq_comm
  rw [hh]
  rfl
theorem contains_ok {st : DSto} {p : Nat} {a : List (List Str)} {x : Str} (ha : PlanAt st p a) (hl : a.flatten.length ≤ sizeLine) : ∃ ν, G_Plan_d_containsd_ [.ref p, .str x] st = .ok (.bl (a.flatten.contains x)) (st ++ ν) := by
  obtain ⟨n1, e1⟩ := walks_ok ha hl
  refine ⟨n1, ?_⟩
  unfold G_Plan_d_containsd_
  rw [bodyF_ap (n := 2) rfl]
  simp only [den_Plan_d_containsd_, dRet_ap, dOp_ap, dProp_ap, dVar_ap, List.map_cons, List.map_nil, List.length_cons, List.length_nil, List.getElem?_cons_zero, List.getElem?_cons_succ, List.cons_append, DRes.bind_ok, ha.isIns, if_pos, e1, inO_tup, ofO_some, toS_ok]
/-- all names whole and short -/
def Nm (x : Str) : Prop := PyData.strOk x = true ∧ x.length ≤ 11
def Nms (gs : List (List Str)) : Prop := ∀ g ∈ gs, ∀ x ∈ g, Nm x
def pyG (gs : List (List Str)) : List PyData := gs.map fun g => .tuple (g.map PyData.str)
theorem pyOfs_str (lk : Nat → Option PyData) : ∀ g : List Str, pyOfs lk (g.map D.str) = some (g.map PyData.str)
  | [] => rfl
  | x :: g => by
    show (pyOf lk (.str x)).bind _ = _
    rw [pyOfs_str lk g]; rfl
theorem pyOfs_tup (lk : Nat → Option PyData) : ∀ gs : List (List Str), pyOfs lk (gs.map tupD) = some (pyG gs)
  | [] => rfl
  | g :: gs => by
    show (pyOf lk (tupD g)).bind _ = _
    rw [pyOfs_tup lk gs]
    show ((pyOfs lk (g.map D.str)).map PyData.tuple).bind _ = _
    rw [pyOfs_str]; rfl
theorem reify_tups {st : DSto} {q : Nat} {gs : List (List Str)} (h : st[q]? = some (.lst (gs.map tupD))) : reify st (.ref q) = some (.list (pyG gs)) := by
  show lookL st _ q = _
  unfold lookL
  rw [h]
  dsimp only
  rw [pyOfs_tup]; rfl
theorem canLay_strs : ∀ {g : List Str}, (∀ x ∈ g, Nm x) → PyData.canLayAll0 (g.map PyData.str) = true
  | [], _ => rfl
  | x :: g, h => by
    show (PyData.strOk x && _) = true
    rw [(h x (List.mem_cons_self ..)).1, canLay_strs fun y hy => h y (List.mem_cons_of_mem _ hy)]; rfl
theorem depth_strs : ∀ g : List Str, PyData.depthAll (g.map PyData.str) = 0
  | [] => rfl
  | x :: g => by show max 0 (PyData.depthAll _) = 0; rw [depth_strs g]; rfl
theorem canLay_tups : ∀ {gs : List (List Str)}, Nms gs → PyData.canLayAll0 (pyG gs) = true
  | [], _ => rfl
  | g :: gs, h => by
    show (PyData.canLayAll0 (g.map PyData.str) && _) = true
    rw [canLay_strs (h g (List.mem_cons_self ..))]
    exact canLay_tups fun y hy => h y (List.mem_cons_of_mem _ hy)
theorem depth_tups : ∀ gs : List (List Str), PyData.depthAll (pyG gs) ≤ 1
  | [] => by decide
  | g :: gs => by
    show max (PyData.depthAll (g.map PyData.str) + 1) (PyData.depthAll (pyG gs)) ≤ 1
    rw [depth_strs g]
    have := depth_tups gs
    omega
theorem shaped_tups {gs : List (List Str)} (h : Nms gs) : SeqAt.shaped (.list (pyG gs)) = true := by
  unfold SeqAt.shaped
  rw [show (PyData.list (pyG gs)).canLay0 = PyData.canLayAll0 (pyG gs) from rfl, canLay_tups h]
  have := depth_tups gs
  exact decide_eq_true (by show PyData.depthAll (pyG gs) + 1 ≤ 64; omega)
theorem shaped_tup {g : List Str} (h : ∀ x ∈ g, Nm x) : SeqAt.shaped (.tuple (g.map .str)) = true := by
  unfold SeqAt.shaped
  rw [show (PyData.tuple (g.map PyData.str)).canLay0 = PyData.canLayAll0 (g.map PyData.str) from rfl, canLay_strs h]
  exact decide_eq_true (by show PyData.depthAll _ + 1 ≤ 64; rw [depth_strs]; decide)
theorem shaped_lst {g : List Str} (h : ∀ x ∈ g, Nm x) : SeqAt.shaped (.list (g.map .str)) = true := by
  unfold SeqAt.shaped
  rw [show (PyData.list (g.map PyData.str)).canLay0 = PyData.canLayAll0 (g.map PyData.str) from rfl, canLay_strs h]
  exact decide_eq_true (by show PyData.depthAll _ + 1 ≤ 64; rw [depth_strs]; decide)
theorem eqv_strs : ∀ a b : List Str, PyData.eqvAll (a.map PyData.str) (b.map PyData.str) = decide (a = b)
  | [], [] => rfl
  | [], _ :: _ => rfl
  | _ :: _, [] => rfl
  | x :: a, y :: b => by
    show (x == y && PyData.eqvAll _ _) = _
    rw [eqv_strs a b, Bool.eq_iff_iff]
    simp
theorem eqv_tups : ∀ a b : List (List Str), PyData.eqvAll (pyG a) (pyG b) = decide (a = b)
  | [], [] => rfl
  | [], _ :: _ => rfl
  | _ :: _, [] => rfl
  | x :: a, y :: b => by
    show (PyData.eqvAll (x.map PyData.str) (y.map PyData.str) && PyData.eqvAll (pyG a) (pyG b)) = _
    rw [eqv_tups a b, eqv_strs, Bool.eq_iff_iff]
    simp
theorem eqO_tups {st : DSto} {p q : Nat} {a b : List (List Str)} (ha : st[p]? = some (.lst (a.map tupD))) (hb : st[q]? = some (.lst (b.map tupD))) (na : Nms a) (nb : Nms b) : eqO (.ref p) (.ref q) st = some (.bl (decide (a = b)), st) ∧ neO (.ref p) (.ref q) st = some (.bl (!decide (a = b)), st) := by
  have e : PyData.eqv (.list (pyG a)) (.list (pyG b)) = decide (a = b) := eqv_tups a b
  unfold eqO neO
  simp only [reify_tups ha, reify_tups hb]
  rw [if_pos ⟨shaped_tups na, shaped_tups nb⟩, if_pos ⟨shaped_tups na, shaped_tups nb⟩, e]
  exact ⟨rfl, rfl⟩
theorem reify_tup (st : DSto) (g : List Str) : reify st (tupD g) = some (.tuple (g.map .str)) := by
  show (pyOfs _ (g.map D.str)).map PyData.tuple = _
  rw [pyOfs_str]; rfl
theorem eqO_tup {st : DSto} {a b : List Str} (na : ∀ x ∈ a, Nm x) (nb : ∀ x ∈ b, Nm x) : eqO (tupD a) (tupD b) st = some (.bl (decide (a = b)), st) ∧ neO (tupD a) (tupD b) st = some (.bl (!decide (a = b)), st) := by
  have e : PyData.eqv (.tuple (a.map .str)) (.tuple (b.map .str)) = decide (a = b) := eqv_strs a b
  unfold eqO neO
  simp only [reify_tup]
  rw [if_pos ⟨shaped_tup na, shaped_tup nb⟩, if_pos ⟨shaped_tup na, shaped_tup nb⟩, e]
  exact ⟨rfl, rfl⟩
theorem eq_ok {st : DSto} {p q : Nat} {a b : List (List Str)} (ha : PlanAt st p a) (hb : PlanAt st q b) (na : Nms a) (nb : Nms b) : G_Plan_d_eqd_ [.ref p, .ref q] st = .ok (.bl (decide (a = b))) st := by
  obtain ⟨x, e1, l1⟩ := ha.fld
  obtain ⟨y, e2, l2⟩ := hb.fld
  unfold G_Plan_d_eqd_
  rw [bodyF_ap (n := 2) rfl]
  simp only [den_Plan_d_eqd_, dRet_ap, dAndV_ap, dIsC_ap, dFld_ap, dOp_ap, dVar_ap, List.map_cons, List.map_nil, List.length_cons, List.length_nil, List.getElem?_cons_zero, List.getElem?_cons_succ, List.cons_append, DRes.bind_ok, hb.isIns, if_pos, e1, e2, (eqO_tups l1 l2 na nb).1, ofO_some, toS_ok]
/-! ### the text of a plan -/
theorem strsD_map : ∀ g : List Str, strsD (g.map D.str) = some g
  | [] => rfl
  | x :: g => by show (strsD (g.map D.str)).map _ = _; rw [strsD_map g]; rfl
theorem sum_le {α : Type} (f : α → Nat) (k : Nat) : ∀ l : List α, (∀ x ∈ l, f x ≤ k) → (l.map f).sum ≤ l.length * k
  | [], _ => by simp
  | x :: l, h => by
    have h1 := h x (List.mem_cons_self ..)
    have h2 := sum_le f k l fun y hy => h y (List.mem_cons_of_mem _ hy)
    simp only [List.map_cons, List.sum_cons, List.length_cons, Nat.add_mul]
    omega
theorem joinO_tup {st : DSto} {d : D} {sep : Str} {g : List Str} (hi : itemsD d st = some (g.map D.str)) (hn : (g.map (·.length)).sum + g.length * sep.length ≤ 16777216) : joinO (.str sep) d st = some (.str (Txt.join sep g), st) := by
  unfold joinO
  dsimp only
  rw [hi, Option.bind_some, strsD_map, Option.bind_some, if_pos hn]
/-- all groups joined, then these -/
def strP (gs : List (List Str)) : Str := Txt.join (PySem.Str.ofString " + ") (gs.map (Txt.join (PySem.Str.ofString "|")))
def barD (i : Nat) : DEnv → List D → DSto → Option (List D × DSto) := stepE dYes (dJoin (dC (.str (PySem.Str.ofString "|"))) (dVar i))
theorem glued_len (sep : Str) : ∀ (ts : List Str), (Txt.join sep ts).length ≤ (ts.map (·.length)).sum + ts.length * sep.length := by
  have h : ∀ (ts : List Str) (a : Array Nat), (ts.foldl (fun acc p => acc ++ sep.cps ++ p.cps) a).size ≤ a.size + (ts.map (·.length)).sum + ts.length * sep.length := by
    intro ts
    induction ts with
    | nil => intro a; simp
    | cons t ts ih =>
      intro a
      have := ih (a ++ sep.cps ++ t.cps)
      simp only [List.foldl_cons, List.map_cons, List.sum_cons, List.length_cons, Nat.add_mul, Array.size_append] at this ⊢
      have e1 : t.length = t.cps.size := rfl
      have e2 : sep.length = sep.cps.size := rfl
      omega
  intro ts
  cases ts with
  | nil => exact Nat.zero_le _
  | cons t ts =>
    have := h ts t.cps
    show (List.foldl _ t.cps ts).size ≤ _
    simp only [List.map_cons, List.sum_cons, List.length_cons, Nat.add_mul]
    have e1 : t.length = t.cps.size := rfl
    omega
theorem join_names {sep : Str} {g : List Str} (hs : sep.length ≤ 3) (h : ∀ x ∈ g, x.length ≤ 11) : (g.map (·.length)).sum + g.length * sep.length ≤ g.length * 14 := by
  have h1 := sum_le (·.length) 11 g h
  have h2 : g.length * sep.length ≤ g.length * 3 := Nat.mul_le_mul (Nat.le_refl _) hs
  omega
theorem bar_len : (PySem.Str.ofString "|").length = 1 := by decide +kernel
theorem plus_len : (PySem.Str.ofString " + ").length = 3 := by decide +kernel
theorem bars_ok {c : Chk} {i : Nat} {ρ : DEnv} {st : DSto} (hi : i < ρ.length) (hc : chkB c st = true) : ∀ (gs : List (List Str)) (acc : List D), (∀ g ∈ gs, g.length ≤ 1000000 ∧ ∀ x ∈ g, x.length ≤ 11) → acc.length + gs.length ≤ sizeLine →
    compL c [i] (gdName i) (barD i) ρ (gs.map tupD) acc st = some (acc ++ (gs.map (Txt.join (PySem.Str.ofString "|"))).map D.str, st)
  | [], acc, _, _ => by rw [List.map_nil, compL_nil, if_pos hc]; simp
  | g :: gs, acc, hn, hl => by
    simp only [List.length_cons] at hl
    rw [List.map_cons, compL_cons, if_pos hc]
    simp only [gdName_ap, wipeE_cons, wipeE_nil]
    have hz : acc.length < sizeLine := by omega
    have hv : ((ρ.set i none).set i (some (tupD g)))[i]? = some (some (tupD g)) := by simp [hi]
    have hg := hn g (List.mem_cons_self ..)
    have hj : joinO (.str (PySem.Str.ofString "|")) (tupD g) st = some (.str (Txt.join (PySem.Str.ofString "|") g), st) := joinO_tup rfl (by
      have := join_names (sep := PySem.Str.ofString "|") (by rw [bar_len]; decide) hg.2
      omega)
    have hs : barD i ((ρ.set i none).set i (some (tupD g))) acc st = some (acc ++ [D.str (Txt.join (PySem.Str.ofString "|") g)], st) := by
      unfold barD
      simp only [stepE_ap, dYes_ap, dJoin_ap, dC_ap, dVar_ap, hv, DRes.bind_ok, hj, ofO_some]
      rw [if_pos hz]
    rw [hs]
    dsimp only
    rw [bars_ok hi hc gs _ (fun y hy => hn y (List.mem_cons_of_mem _ hy)) (by rw [List.length_append]; simp; omega)]
    simp
/-- the guard of the outer join -/
theorem outer_len {gs : List (List Str)} (h : ∀ g ∈ gs, ∀ x ∈ g, x.length ≤ 11) : ((gs.map (Txt.join (PySem.Str.ofString "|"))).map (·.length)).sum + (gs.map (Txt.join (PySem.Str.ofString "|"))).length * (PySem.Str.ofString " + ").length ≤ gs.flatten.length * 14 + gs.length * 3 := by
  rw [plus_len, List.length_map]
  have : ((gs.map (Txt.join (PySem.Str.ofString "|"))).map (·.length)).sum ≤ gs.flatten.length * 14 := by
    induction gs with
    | nil => simp
    | cons g gs ih =>
      have h1 := glued_len (PySem.Str.ofString "|") g
      have h2 := join_names (sep := PySem.Str.ofString "|") (by rw [bar_len]; decide) (h g (List.mem_cons_self ..))
      have h3 := ih fun y hy => h y (List.mem_cons_of_mem _ hy)
      simp only [List.map_cons, List.sum_cons, List.flatten_cons, List.length_append, Nat.add_mul]
      omega
  omega
structure Small (gs : List (List Str)) : Prop where
  nm : Nms gs
  fl : gs.flatten.length ≤ 100000
  ln : gs.length ≤ 100000
theorem Small.each {gs : List (List Str)} (h : Small gs) : ∀ g ∈ gs, g.length ≤ 1000000 ∧ ∀ x ∈ g, x.length ≤ 11 := fun g hg => ⟨by
    have := (List.sublist_flatten_of_mem hg).length_le
    have := h.fl
    omega, fun x hx => (h.nm g hg x hx).2⟩
theorem Small.outer {gs : List (List Str)} (h : Small gs) : ((gs.map (Txt.join (PySem.Str.ofString "|"))).map (·.length)).sum + (gs.map (Txt.join (PySem.Str.ofString "|"))).length * (PySem.Str.ofString " + ").length ≤ 16777216 := by
  have := outer_len (gs := gs) fun g hg x hx => (h.nm g hg x hx).2
  have := h.fl
  have := h.ln
  omega
theorem str_ok {st : DSto} {p : Nat} {a : List (List Str)} (ha : PlanAt st p a) (hs : Small a) : ∃ ν, G_Plan_d_strd_ [.ref p] st = .ok (.str (strP a)) (st ++ ν) := by
  obtain ⟨x, e1, l1⟩ := ha.fld
  have hb := bars_ok (c := [(x, .lst (a.map tupD))]) (i := 1) (ρ := [some (.ref p), none]) (st := st) (by simp) (by simp [l1]) a [] hs.each (by have := hs.ln; have := szl; simp; omega)
  have hj : joinO (.str (PySem.Str.ofString " + ")) (.ref st.length) (st ++ [.lst ((a.map (Txt.join (PySem.Str.ofString "|"))).map D.str)]) = some (.str (strP a), st ++ [.lst ((a.map (Txt.join (PySem.Str.ofString "|"))).map D.str)]) := joinO_tup (items_ref (by simp)) hs.outer
  refine ⟨[.lst ((a.map (Txt.join (PySem.Str.ofString "|"))).map D.str)], ?_⟩
  unfold G_Plan_d_strd_
  rw [bodyF_ap (n := 1) rfl]
  unfold barD at hb
  rw [List.nil_append] at hb
  simp only [den_Plan_d_strd_, dRet_ap, dJoin_ap, dC_ap, dLc_ap, dISeq_ap, dFld_ap, dVar_ap, List.map_cons, List.map_nil, List.length_cons, List.length_nil, List.getElem?_cons_zero, List.cons_append, List.nil_append, DRes.bind_ok, e1, l1]
  simp only [List.replicate_one, Nat.reduceSub, Nat.reduceAdd]
  simp only [hb, hj, DRes.bind_ok, ofO_some, toS_ok]
end FW

set_option Elab.async false
set_option linter.all false
set_option maxRecDepth 100000
set_option maxHeartbeats 4000000
namespace K10
open PySem PySem.Spec PyProof.Rows FW

def den_law_groups : DenS :=
  (dSeq (dAsg 2 (dLst dNil))
    (dSeq (dFor (dIRng1 (dCall G_law_draw (dCons (dVar 0) (dCons (dC (.int 7)) dNil)))) (gdName 3) (dExpr (dApp (dVar 2) (dLc (dIRng1 (dCall G_law_draw (dCons (dVar 0) (dCons (dC (.int 5)) dNil)))) [4] (gdName 4) (stepE dYes (dOp ixO (dVar 1) (dCall G_law_draw (dCons (dVar 0) (dCons (dB' lenO (dCons (dVar 1) dNil)) dNil)))))))))
    (dRet (dVar 2))))
def G_law_groups : FnD := bodyF 2 5 den_law_groups

def den_law_plan : DenS :=
  (dSeq (dIfS (dB (dOp eqO (dB' lenO (dCons (dVar 0) dNil)) (dC (.int 0)))) (dRet (dMake 0 G_Plan_d_initd_ dNil)) dSkip)
    (dSeq (dIfS (dB (dOp eqO (dB' lenO (dCons (dVar 0) dNil)) (dC (.int 1)))) (dRet (dMake 0 G_Plan_d_initd_ (dCons (dOp ixO (dVar 0) (dC (.int 0))) dNil))) dSkip)
    (dSeq (dIfS (dB (dOp eqO (dB' lenO (dCons (dVar 0) dNil)) (dC (.int 2)))) (dRet (dMake 0 G_Plan_d_initd_ (dCons (dOp ixO (dVar 0) (dC (.int 0))) (dCons (dB' tupleO (dCons (dOp ixO (dVar 0) (dC (.int 1))) dNil)) dNil)))) dSkip)
    (dSeq (dIfS (dB (dOp eqO (dB' lenO (dCons (dVar 0) dNil)) (dC (.int 3)))) (dRet (dMake 0 G_Plan_d_initd_ (dCons (dOp ixO (dVar 0) (dC (.int 0))) (dCons (dOp ixO (dVar 0) (dC (.int 1))) (dCons (dOp ixO (dVar 0) (dC (.int 2))) dNil))))) dSkip)
    (dSeq (dAsg 1 (dMake 0 G_Plan_d_initd_ (dCons (dOp ixO (dVar 0) (dC (.int 3))) dNil)))
    (dSeq (dFor (dISeq (dSl (dVar 0) (some (dC (.int 4))) none)) (gdName 2) (dAsg 1 (dOp (own2 0 G_Plan_d_addd_) (dVar 1) (dMake 0 G_Plan_d_initd_ (dCons (dVar 2) dNil)))))
    (dRet (dOp (own2 0 G_Plan_d_addd_) (dMake 0 G_Plan_d_initd_ (dCons (dB' tupleO (dCons (dOp ixO (dVar 0) (dC (.int 0))) dNil)) (dCons (dOp ixO (dVar 0) (dC (.int 1))) (dCons (dOp ixO (dVar 0) (dC (.int 2))) dNil)))) (dVar 1)))))))))
def G_law_plan : FnD := bodyF 1 3 den_law_plan

def den_law_is : DenS :=
  (dSeq (dAsg 3 (dLc (dISeq (dVar 1)) [5] (gdName 5) (stepE (dB (dOp gtO (dB' lenO (dCons (dVar 5) dNil)) (dC (.int 0)))) (dB' tupleO (dCons (dVar 5) dNil)))))
    (dSeq (dAsg 4 (dLst dNil))
    (dSeq (dFor (dISeq (dVar 3)) (gdName 5) (dAsg 4 (dOp addO (dVar 4) (dB' listO (dCons (dVar 5) dNil)))))
    (dSeq (dIfS (dOr (dB (dOp neO (dLc (dIOwn 0 0 (dVar 0)) [5] (gdName 5) (stepE dYes (dVar 5))) (dVar 3))) (dOr (dB (dOp neO (dB' (ownLen 0 G_Plan_d_lend_) (dCons (dVar 0) dNil)) (dB' lenO (dCons (dVar 3) dNil)))) (dB (dOp neO (dProp 0 G_Plan_walks (dVar 0)) (dB' tupleO (dCons (dVar 4) dNil)))))) (dRet (dC (.bl false))) dSkip)
    (dSeq (dFor (dISeq (dOp addO (dVar 2) (dLst (dCons (dC (.str (PySem.Str.ofString "unknownname"))) dNil)))) (gdName 6) (dIfS (dB (dOp neO (dOp (ownIn 0 G_Plan_d_containsd_) (dVar 6) (dVar 0)) (dOp inO (dVar 6) (dVar 4)))) (dRet (dC (.bl false))) dSkip))
    (dRet (dOp eqO (dB' (ownStr 0 G_Plan_d_strd_) (dCons (dVar 0) dNil)) (dJoin (dC (.str (PySem.Str.ofString " + "))) (dLc (dISeq (dVar 3)) [5] (gdName 5) (stepE dYes (dJoin (dC (.str (PySem.Str.ofString "|"))) (dVar 5))))))))))))
def G_law_is : FnD := bodyF 3 7 den_law_is

def den_law_apart : DenS :=
  (dSeq (dIfS (dB (dOp eqO (dB' lenO (dCons (dVar 0) dNil)) (dC (.int 0)))) (dRet (dCall G_Plan_apart dNil)) dSkip)
    (dSeq (dIfS (dB (dOp eqO (dB' lenO (dCons (dVar 0) dNil)) (dC (.int 1)))) (dRet (dCall G_Plan_apart (dCons (dOp ixO (dVar 0) (dC (.int 0))) dNil))) dSkip)
    (dSeq (dIfS (dB (dOp eqO (dB' lenO (dCons (dVar 0) dNil)) (dC (.int 2)))) (dRet (dCall G_Plan_apart (dCons (dOp ixO (dVar 0) (dC (.int 0))) (dCons (dOp ixO (dVar 0) (dC (.int 1))) dNil)))) dSkip)
    (dRet (dCall G_Plan_apart (dCons (dOp ixO (dVar 0) (dC (.int 0))) (dCons (dOp ixO (dVar 0) (dC (.int 1))) (dCons (dOp ixO (dVar 0) (dC (.int 2))) dNil))))))))
def G_law_apart : FnD := bodyF 1 1 den_law_apart

def den_law_together : DenS :=
  (dSeq (dIfS (dB (dOp eqO (dB' lenO (dCons (dVar 0) dNil)) (dC (.int 0)))) (dRet (dCall G_Plan_together dNil)) dSkip)
    (dSeq (dIfS (dB (dOp eqO (dB' lenO (dCons (dVar 0) dNil)) (dC (.int 1)))) (dRet (dCall G_Plan_together (dCons (dOp ixO (dVar 0) (dC (.int 0))) dNil))) dSkip)
    (dSeq (dIfS (dB (dOp eqO (dB' lenO (dCons (dVar 0) dNil)) (dC (.int 2)))) (dRet (dCall G_Plan_together (dCons (dOp ixO (dVar 0) (dC (.int 0))) (dCons (dOp ixO (dVar 0) (dC (.int 1))) dNil)))) dSkip)
    (dRet (dCall G_Plan_together (dCons (dOp ixO (dVar 0) (dC (.int 0))) (dCons (dOp ixO (dVar 0) (dC (.int 1))) (dCons (dOp ixO (dVar 0) (dC (.int 2))) dNil))))))))
def G_law_together : FnD := bodyF 1 1 den_law_together

def den_law : DenS :=
  (dSeq (dAsg 1 (dCall G_law_source (dCons (dVar 0) dNil)))
    (dSeq (dAsg 2 (dCall G_law_names (dCons (dVar 1) (dCons (dC (.int 6)) dNil))))
    (dSeq (dAsg 3 (dCall G_law_groups (dCons (dVar 1) (dCons (dVar 2) dNil))))
    (dSeq (dAsg 4 (dCall G_law_groups (dCons (dVar 1) (dCons (dVar 2) dNil))))
    (dSeq (dAsg 5 (dLc (dISeq (dVar 3)) [7] (gdName 7) (stepE dYes (dB' listO (dCons (dVar 7) dNil)))))
    (dSeq (dAsg 6 (dCall G_law_plan (dCons (dVar 5) dNil)))
    (dSeq (dIfS (dB (dOp neO (dVar 5) (dVar 3))) (dRet (dC (.bl false))) dSkip)
    (dSeq (dFor (dISeq (dVar 5)) (gdName 7) (dExpr (dApp (dVar 7) (dC (.str (PySem.Str.ofString "unknownname"))))))
    (dSeq (dExpr (dApp (dVar 5) (dLst (dCons (dC (.str (PySem.Str.ofString "unknownname"))) dNil))))
    (dSeq (dAsg 8 (dCall G_law_plan (dCons (dLc (dISeq (dVar 4)) [7] (gdName 7) (stepE dYes (dB' listO (dCons (dVar 7) dNil)))) dNil)))
    (dSeq (dAsg 9 (dCall G_law_draw (dCons (dVar 1) (dCons (dC (.int 4)) dNil))))
    (dSeq (dIfS (dB (dOp eqO (dCall G_law_draw (dCons (dVar 1) (dCons (dC (.int 8)) dNil))) (dC (.int 7)))) (dAsg 9 (dCall G_law_draw (dCons (dVar 1) (dCons (dC (.int 101)) dNil)))) dSkip)
    (dSeq (dAsg 10 (dLc (dIRng1 (dCall G_law_draw (dCons (dVar 1) (dCons (dC (.int 4)) dNil)))) [14] (gdName 14) (stepE dYes (dOp ixO (dVar 2) (dCall G_law_draw (dCons (dVar 1) (dCons (dB' lenO (dCons (dVar 2) dNil)) dNil)))))))
    (dSeq (dAsg 11 (dLst dNil))
    (dSeq (dFor (dISeq (dOp addO (dVar 3) (dVar 4))) (gdName 7) (dAsg 11 (dOp addO (dVar 11) (dVar 7))))
    (dSeq (dAsg 12 (dLc (dISeq (dVar 3)) [7] (gdName 7) (stepE (dB (dOp gtO (dB' lenO (dCons (dVar 7) dNil)) (dC (.int 0)))) (dB' tupleO (dCons (dVar 7) dNil)))))
    (dSeq (dAsg 13 (dOp (own2 0 G_Plan_d_eqd_) (dVar 6) (dVar 8)))
    (dSeq (dIfS (dOr (dNot (dB (dIsTy "bool" (dVar 13)))) (dB (dOp neO (dVar 13) (dOp eqO (dVar 12) (dLc (dISeq (dVar 4)) [7] (gdName 7) (stepE (dB (dOp gtO (dB' lenO (dCons (dVar 7) dNil)) (dC (.int 0)))) (dB' tupleO (dCons (dVar 7) dNil)))))))) (dRet (dC (.bl false))) dSkip)
    (dSeq (dIfS (dOr (dNot (dB (dCall G_law_is (dCons (dOp (own2 0 G_Plan_d_addd_) (dVar 6) (dVar 8)) (dCons (dOp addO (dVar 3) (dVar 4)) (dCons (dVar 2) dNil)))))) (dNot (dB (dCall G_law_is (dCons (dOp (own2 0 G_Plan_d_ord_) (dVar 6) (dVar 8)) (dCons (dLst (dCons (dVar 11) dNil)) (dCons (dVar 2) dNil))))))) (dRet (dC (.bl false))) dSkip)
    (dSeq (dIfS (dOr (dNot (dB (dCall G_law_is (dCons (dOp (ownI 0 G_Plan_d_muld_) (dVar 6) (dVar 9)) (dCons (dOp mulO (dVar 3) (dVar 9)) (dCons (dVar 2) dNil)))))) (dNot (dB (dCall G_law_is (dCons (dOp (ownRI 0 G_Plan_d_rmuld_) (dVar 9) (dVar 6)) (dCons (dOp mulO (dVar 3) (dVar 9)) (dCons (dVar 2) dNil))))))) (dRet (dC (.bl false))) dSkip)
    (dSeq (dIfS (dOr (dNot (dB (dCall G_law_is (dCons (dCall G_law_apart (dCons (dVar 10) dNil)) (dCons (dLc (dISeq (dVar 10)) [15] (gdName 15) (stepE dYes (dLst (dCons (dVar 15) dNil)))) (dCons (dVar 2) dNil)))))) (dNot (dB (dCall G_law_is (dCons (dCall G_law_together (dCons (dVar 10) dNil)) (dCons (dLst (dCons (dVar 10) dNil)) (dCons (dVar 2) dNil))))))) (dRet (dC (.bl false))) dSkip)
    (dSeq (dIfS (dOr (dNot (dB (dCall G_law_is (dCons (dVar 6) (dCons (dVar 3) (dCons (dVar 2) dNil)))))) (dNot (dB (dCall G_law_is (dCons (dVar 8) (dCons (dVar 4) (dCons (dVar 2) dNil))))))) (dRet (dC (.bl false))) dSkip)
    (dSeq (dIfS (dB (dOp neO (dOp (own2 0 G_Plan_d_eqd_) (dVar 6) (dOp (own2 0 G_Plan_d_ord_) (dVar 6) (dMake 0 G_Plan_d_initd_ dNil))) (dOp ltO (dB' lenO (dCons (dVar 12) dNil)) (dC (.int 2))))) (dRet (dC (.bl false))) dSkip)
    (dRet (dAndV (dOp eqO (dOp (own2 0 G_Plan_d_eqd_) (dVar 6) (dMake 0 G_Plan_d_initd_ dNil)) (dOp eqO (dB' lenO (dCons (dVar 12) dNil)) (dC (.int 0)))) (dOp isO (dOp (own2 0 G_Plan_d_eqd_) (dVar 6) (dCall G_law_plan (dCons (dVar 3) dNil))) (dC (.bl true))))))))))))))))))))))))))))
def G_law : FnD := bodyF 1 16 den_law
end K10

set_option Elab.async false
set_option linter.all false
set_option maxRecDepth 100000
set_option maxHeartbeats 4000000
namespace K10
open PySem PySem.Spec PyProof.Rows L2 FW
def top (i : Nat) : Stmt := PySem.Challenge.pw_fusewalks_k10_plan_groups.main.body.getD i (.Pass ⟨0, 0, 0, 0⟩)
theorem u65 {k : Nat} {A : Around} (r : Room k A) : A.units + 65 < cLine := by have := r.un; omega
abbrev st_law_source : Stmt := top 3
theorem sc_law_source : FnScope [(PySem.Str.ofString "_law_script"), (PySem.Str.ofString "_law_cells"), (PySem.Str.ofString "_law_cell")] [(PySem.Str.ofString "_law_script")] (defScope st_law_source) := ⟨rfl, rfl, rfl, by decide +kernel, rfl, by decide +kernel, by decide +kernel⟩
theorem bx_law_source {P : Program} {w : World} {T : Tb} {mg : Str → Option Value} {base : Heap} {f : Addr} (m_int : mg (PySem.Str.ofString "int") = none) (m_sum : mg (PySem.Str.ofString "sum") = none) : BodyX P w T mg base 0 [(PySem.Str.ofString "_law_script"), (PySem.Str.ofString "_law_cells"), (PySem.Str.ofString "_law_cell")] (PySem.Str.ofString "_law_source") st_law_source f den_law_source := by
  intro cdv A outer s H E hr
  exact (pssx_cons (psx_setLc 1 (own := [((PySem.Str.ofString "_law_cell"), 2)]) rfl sc_law_source.nd (pix_seq fits_body (px_slice rfl (px_var 0) pox_none (pox_some px_int))) (ok := (show BlkOk [(PySem.Str.ofString "_law_script"), (PySem.Str.ofString "_law_cells"), (PySem.Str.ofString "_law_cell")] (defScope st_law_source) _ [((PySem.Str.ofString "_law_cell"), 2)] from ⟨rfl, by decide +kernel, by decide +kernel, by decide +kernel, by decide +kernel⟩)) (by decide) (fun _ _ _ _ _ => (pgx_name 2 sc_law_source.nd)) (fun _ _ _ _ _ => ptsx_nil) (fun _ _ _ _ _ => (px_callTy (cx_int) m_int (pax_cons (px_var 2) pax_nil))))
    (pssx_one (psx_ret (px_lst (pax_cons (px_var 1) (pax_cons (px_lc (own := [((PySem.Str.ofString "_law_cell"), 2)]) rfl sc_law_source.nd (pix_seq fits_body (px_var 1)) (ok := (show BlkOk [(PySem.Str.ofString "_law_script"), (PySem.Str.ofString "_law_cells"), (PySem.Str.ofString "_law_cell")] (defScope st_law_source) _ [((PySem.Str.ofString "_law_cell"), 2)] from ⟨rfl, by decide +kernel, by decide +kernel, by decide +kernel, by decide +kernel⟩)) (by decide) (fun _ _ _ _ _ => (pgx_name 2 sc_law_source.nd)) (fun _ _ _ _ _ => ptsx_nil) (fun _ _ _ _ _ => (px_cmp (ox_ge) (px_var 2) (px_op (ox_pow) px_int px_int)))) (pax_cons px_int (pax_cons px_int (pax_cons (px_op (ox_mod) (px_callTy (cx_int) m_int (pax_cons (px_callB (cx_sum rfl) m_sum (pax_cons (px_var 1) pax_nil)) pax_nil)) px_int) pax_nil)))))))))
abbrev st_law_draw : Stmt := top 4
theorem sc_law_draw : FnScope [(PySem.Str.ofString "_law_source_here"), (PySem.Str.ofString "_law_many"), (PySem.Str.ofString "_law_cells"), (PySem.Str.ofString "_law_at"), (PySem.Str.ofString "_law_mixed"), (PySem.Str.ofString "_law_number")] [(PySem.Str.ofString "_law_source_here"), (PySem.Str.ofString "_law_many")] (defScope st_law_draw) := ⟨rfl, rfl, rfl, by decide +kernel, rfl, by decide +kernel, by decide +kernel⟩
theorem bx_law_draw {P : Program} {w : World} {T : Tb} {mg : Str → Option Value} {base : Heap} {f : Addr} (m_len : mg (PySem.Str.ofString "len") = none) (m_int : mg (PySem.Str.ofString "int") = none) : BodyX P w T mg base 0 [(PySem.Str.ofString "_law_source_here"), (PySem.Str.ofString "_law_many"), (PySem.Str.ofString "_law_cells"), (PySem.Str.ofString "_law_at"), (PySem.Str.ofString "_law_mixed"), (PySem.Str.ofString "_law_number")] (PySem.Str.ofString "_law_draw") st_law_draw f den_law_draw := by
  intro cdv A outer s H E hr
  exact (pssx_cons (psx_set 2 sc_law_draw.nd (px_ix rfl (px_var 0) px_int))
    (pssx_cons (psx_set 3 sc_law_draw.nd (px_ix rfl (px_var 0) px_int))
    (pssx_cons (psx_if (ptx_cmp (ox_lt) (px_var 3) (px_callB (cx_len rfl) m_len (pax_cons (px_var 2) pax_nil))) (pssx_cons (psx_set 5 sc_law_draw.nd (px_ix rfl (px_var 2) (px_var 3)))
    (pssx_cons (psx_asg (px_op (ox_fdiv) (px_var 5) (px_var 1)) (pgx_sub (W := WN) (px_var 2) (px_var 3) sx_lst))
    (pssx_cons (psx_if (ptx_bool (pwx_or (ptx_not (ptx_val (px_ix rfl (px_ix rfl (px_var 0) px_int) (px_var 3)))) (pwx_or1 (ptx_cmp (ox_eq rfl hr.units) (px_ix rfl (px_var 2) (px_var 3)) px_int)))) (pssx_one (psx_asg (px_op (ox_add rfl) (px_var 3) px_int) (pgx_sub (W := WN) (px_var 0) px_int sx_lst))) pssx_nil)
    (pssx_one (psx_ret (px_op (ox_mod) (px_callTy (cx_int) m_int (pax_cons (px_var 5) pax_nil)) (px_var 1))))))) pssx_nil)
    (pssx_cons (psx_if (ptx_cmp (ox_eq rfl hr.units) (px_ix rfl (px_var 0) px_int) px_int) (pssx_one (psx_ret px_int)) pssx_nil)
    (pssx_cons (psx_asg (px_op (ox_add rfl) (px_ix rfl (px_var 0) px_int) px_int) (pgx_sub (W := WN) (px_var 0) px_int sx_lst))
    (pssx_cons (psx_set 4 sc_law_draw.nd (px_op (ox_mod) (px_callTy (cx_int) m_int (pax_cons (px_op (ox_mul) (px_op (ox_add rfl) (px_ix rfl (px_var 0) px_int) (px_op (ox_mul) (px_ix rfl (px_var 0) px_int) px_int)) px_int) pax_nil)) px_int))
    (pssx_one (psx_ret (px_op (ox_mod) (px_op (ox_fdiv) (px_op (ox_mod) (px_callTy (cx_int) m_int (pax_cons (px_op (ox_mul) (px_var 4) (px_var 4)) pax_nil)) px_int) px_int) (px_var 1))))))))))
abbrev st_law_names : Stmt := top 5
theorem sc_law_names : FnScope [(PySem.Str.ofString "_law_source_here"), (PySem.Str.ofString "_law_count"), (PySem.Str.ofString "_law_letters"), (PySem.Str.ofString "_law_ahead"), (PySem.Str.ofString "_law_behind"), (PySem.Str.ofString "_law_uneven"), (PySem.Str.ofString "_law_first"), (PySem.Str.ofString "_law_fill"), (PySem.Str.ofString "_law_k")] [(PySem.Str.ofString "_law_source_here"), (PySem.Str.ofString "_law_count")] (defScope st_law_names) := ⟨rfl, rfl, rfl, by decide +kernel, rfl, by decide +kernel, by decide +kernel⟩
theorem bx_law_names {P : Program} {w : World} {T : Tb} {mg : Str → Option Value} {base : Heap} {f : Addr} (h_law_draw : FnG P w T mg base 1 (PySem.Str.ofString "_law_draw") G_law_draw) (m_range : mg (PySem.Str.ofString "range") = none) (m_int : mg (PySem.Str.ofString "int") = none) : BodyX P w T mg base 1 [(PySem.Str.ofString "_law_source_here"), (PySem.Str.ofString "_law_count"), (PySem.Str.ofString "_law_letters"), (PySem.Str.ofString "_law_ahead"), (PySem.Str.ofString "_law_behind"), (PySem.Str.ofString "_law_uneven"), (PySem.Str.ofString "_law_first"), (PySem.Str.ofString "_law_fill"), (PySem.Str.ofString "_law_k")] (PySem.Str.ofString "_law_names") st_law_names f den_law_names := by
  intro cdv A outer s H E hr
  exact (pssx_cons (psx_set 2 sc_law_names.nd px_str)
    (pssx_cons (psx_set 3 sc_law_names.nd (pxg_call fits_body h_law_draw (hr.mono (j := 1) (by decide)) (cb_plain (pax_cons (px_var 0) (pax_cons px_int pax_nil)))))
    (pssx_cons (psx_set 4 sc_law_names.nd (pxg_call fits_body h_law_draw (hr.mono (j := 1) (by decide)) (cb_plain (pax_cons (px_var 0) (pax_cons px_int pax_nil)))))
    (pssx_cons (psx_set 5 sc_law_names.nd (pxg_call fits_body h_law_draw (hr.mono (j := 1) (by decide)) (cb_plain (pax_cons (px_var 0) (pax_cons px_int pax_nil)))))
    (pssx_cons (psx_set 6 sc_law_names.nd (pxg_call fits_body h_law_draw (hr.mono (j := 1) (by decide)) (cb_plain (pax_cons (px_var 0) (pax_cons px_int pax_nil)))))
    (pssx_cons (psx_set 7 sc_law_names.nd (px_ix rfl (px_var 2) (pxg_call fits_body h_law_draw (hr.mono (j := 1) (by decide)) (cb_plain (pax_cons (px_var 0) (pax_cons px_int pax_nil))))))
    (pssx_one (psx_ret (px_lc (own := [((PySem.Str.ofString "_law_k"), 8)]) rfl sc_law_names.nd (pix_rng1 rfl m_range (px_var 1)) (ok := (show BlkOk [(PySem.Str.ofString "_law_source_here"), (PySem.Str.ofString "_law_count"), (PySem.Str.ofString "_law_letters"), (PySem.Str.ofString "_law_ahead"), (PySem.Str.ofString "_law_behind"), (PySem.Str.ofString "_law_uneven"), (PySem.Str.ofString "_law_first"), (PySem.Str.ofString "_law_fill"), (PySem.Str.ofString "_law_k")] (defScope st_law_names) _ [((PySem.Str.ofString "_law_k"), 8)] from ⟨rfl, by decide +kernel, by decide +kernel, by decide +kernel, by decide +kernel⟩)) (by decide) (fun _ _ _ _ _ => (pgx_name 8 sc_law_names.nd)) (fun _ _ _ _ _ => ptsx_nil) (fun _ _ _ _ _ => (px_op (ox_add rfl) (px_op (ox_add rfl) (px_op (ox_mul) (px_var 7) (px_var 3)) (px_ix rfl (px_var 2) (px_op (ox_mod) (px_callTy (cx_int) m_int (pax_cons (px_op (ox_add rfl) (px_var 6) (px_var 8)) pax_nil)) px_int))) (px_op (ox_mul) (px_var 7) (px_op (ox_add rfl) (px_var 4) (px_op (ox_mul) (px_var 5) (px_op (ox_mod) (px_callTy (cx_int) m_int (pax_cons (px_var 8) pax_nil)) px_int)))))))))))))))
abbrev st_law_groups : Stmt := top 6
theorem sc_law_groups : FnScope [(PySem.Str.ofString "_law_source_here"), (PySem.Str.ofString "_law_names_here"), (PySem.Str.ofString "_law_groups_here"), (PySem.Str.ofString "_law_n"), (PySem.Str.ofString "_law_k")] [(PySem.Str.ofString "_law_source_here"), (PySem.Str.ofString "_law_names_here")] (defScope st_law_groups) := ⟨rfl, rfl, rfl, by decide +kernel, rfl, by decide +kernel, by decide +kernel⟩
theorem bx_law_groups {P : Program} {w : World} {T : Tb} {mg : Str → Option Value} {base : Heap} {f : Addr} (h_law_draw : FnG P w T mg base 1 (PySem.Str.ofString "_law_draw") G_law_draw) (m_range : mg (PySem.Str.ofString "range") = none) (m_len : mg (PySem.Str.ofString "len") = none) : BodyX P w T mg base 1 [(PySem.Str.ofString "_law_source_here"), (PySem.Str.ofString "_law_names_here"), (PySem.Str.ofString "_law_groups_here"), (PySem.Str.ofString "_law_n"), (PySem.Str.ofString "_law_k")] (PySem.Str.ofString "_law_groups") st_law_groups f den_law_groups := by
  intro cdv A outer s H E hr
  exact (pssx_cons (psx_set 2 sc_law_groups.nd (px_lst pax_nil))
    (pssx_cons (psx_for own_body rfl (pix_rng1 rfl m_range (pxg_call fits_body h_law_draw (hr.mono (j := 1) (by decide)) (cb_plain (pax_cons (px_var 0) (pax_cons px_int pax_nil))))) (pgx_name 3 sc_law_groups.nd) (pssx_one (psx_expr (px_app (px_var 2) (px_lc (own := [((PySem.Str.ofString "_law_k"), 4)]) rfl sc_law_groups.nd (pix_rng1 rfl m_range (pxg_call fits_body h_law_draw (hr.mono (j := 1) (by decide)) (cb_plain (pax_cons (px_var 0) (pax_cons px_int pax_nil))))) (ok := (show BlkOk [(PySem.Str.ofString "_law_source_here"), (PySem.Str.ofString "_law_names_here"), (PySem.Str.ofString "_law_groups_here"), (PySem.Str.ofString "_law_n"), (PySem.Str.ofString "_law_k")] (defScope st_law_groups) _ [((PySem.Str.ofString "_law_k"), 4)] from ⟨rfl, by decide +kernel, by decide +kernel, by decide +kernel, by decide +kernel⟩)) (by decide) (fun _ _ _ _ _ => (pgx_name 4 sc_law_groups.nd)) (fun _ _ _ _ _ => ptsx_nil) (fun _ _ _ _ _ => (px_ix rfl (px_var 1) (pxg_call (fits_blk rfl) h_law_draw (hr.mono (j := 1) (by decide)) (cb_plain (pax_cons (px_var 0) (pax_cons (px_callB (cx_len rfl) m_len (pax_cons (px_var 1) pax_nil)) pax_nil)))))))))))
    (pssx_one (psx_ret (px_var 2)))))
abbrev st_Plan_d_initd_ : Stmt := inClass (top 1) 0
theorem sc_Plan_d_initd_ : FnScope [(PySem.Str.ofString "self"), (PySem.Str.ofString "groups"), (PySem.Str.ofString "group")] [(PySem.Str.ofString "self"), (PySem.Str.ofString "groups")] (defScope st_Plan_d_initd_) := ⟨rfl, rfl, rfl, by decide +kernel, rfl, by decide +kernel, by decide +kernel⟩
theorem bx_Plan_d_initd_ {P : Program} {w : World} {T : Tb} {mg : Str → Option Value} {base : Heap} {f : Addr} (m_len : mg (PySem.Str.ofString "len") = none) (m_tuple : mg (PySem.Str.ofString "tuple") = none) (na_0_0 : NaG T 0 0 (PySem.Str.ofString "groups")) : BodyX P w T mg base 0 [(PySem.Str.ofString "self"), (PySem.Str.ofString "groups"), (PySem.Str.ofString "group")] (PySem.Str.ofString "Plan.__init__") st_Plan_d_initd_ f den_Plan_d_initd_ := by
  intro cdv A outer s H E hr
  exact (pssx_one (psxg_fld 0 0 fits_body na_0_0 (px_var 0) (px_lc (own := [((PySem.Str.ofString "group"), 2)]) rfl sc_Plan_d_initd_.nd (pix_seq fits_body (px_var 1)) (ok := (show BlkOk [(PySem.Str.ofString "self"), (PySem.Str.ofString "groups"), (PySem.Str.ofString "group")] (defScope st_Plan_d_initd_) _ [((PySem.Str.ofString "group"), 2)] from ⟨rfl, by decide +kernel, by decide +kernel, by decide +kernel, by decide +kernel⟩)) (by decide) (fun _ _ _ _ _ => (pgx_name 2 sc_Plan_d_initd_.nd)) (fun _ _ _ _ _ => (ptsx_one (ptx_cmp (ox_gt) (px_callB (cx_len rfl) m_len (pax_cons (px_var 2) pax_nil)) px_int))) (fun _ _ _ _ _ => (px_callTy (cx_tuple rfl) m_tuple (pax_cons (px_var 2) pax_nil))))))
abbrev st_Plan_d_addd_ : Stmt := inClass (top 1) 6
theorem sc_Plan_d_addd_ : FnScope [(PySem.Str.ofString "self"), (PySem.Str.ofString "other")] [(PySem.Str.ofString "self"), (PySem.Str.ofString "other")] (defScope st_Plan_d_addd_) := ⟨rfl, rfl, rfl, by decide +kernel, rfl, by decide +kernel, by decide +kernel⟩
theorem bx_Plan_d_addd_ {P : Program} {w : World} {T : Tb} {mg : Str → Option Value} {base : Heap} {f : Addr} (h_Plan_d_initd_ : ClG P w T mg base 1 0 (PySem.Str.ofString "Plan") G_Plan_d_initd_) (ft_0 : T.FT[0]? = some (PySem.Str.ofString "groups")) : BodyX P w T mg base 2 [(PySem.Str.ofString "self"), (PySem.Str.ofString "other")] (PySem.Str.ofString "Plan.__add__") st_Plan_d_addd_ f den_Plan_d_addd_ := by
  intro cdv A outer s H E hr
  exact (pssx_one (psx_ret (pxg_make 0 fits_body h_Plan_d_initd_ (hr.mono (j := 2) (by decide)) (cb_stars (pax_star fits_body (px_fld 0 fits_body ft_0 (px_var 0)) (pax_star fits_body (px_fld 0 fits_body ft_0 (px_var 1)) pax_nil))))))
abbrev st_law_plan : Stmt := top 7
theorem sc_law_plan : FnScope [(PySem.Str.ofString "_law_groups_here"), (PySem.Str.ofString "_law_rest"), (PySem.Str.ofString "_law_group")] [(PySem.Str.ofString "_law_groups_here")] (defScope st_law_plan) := ⟨rfl, rfl, rfl, by decide +kernel, rfl, by decide +kernel, by decide +kernel⟩
theorem bx_law_plan {P : Program} {w : World} {T : Tb} {mg : Str → Option Value} {base : Heap} {f : Addr} (m_len : mg (PySem.Str.ofString "len") = none) (h_Plan_d_initd_ : ClG P w T mg base 1 0 (PySem.Str.ofString "Plan") G_Plan_d_initd_) (m_tuple : mg (PySem.Str.ofString "tuple") = none) (h_Plan_d_addd_ : MtG P w T mg base 3 0 (PySem.Str.ofString "__add__") G_Plan_d_addd_) (sf_0 : SfG T 0) : BodyX P w T mg base 3 [(PySem.Str.ofString "_law_groups_here"), (PySem.Str.ofString "_law_rest"), (PySem.Str.ofString "_law_group")] (PySem.Str.ofString "_law_plan") st_law_plan f den_law_plan := by
  intro cdv A outer s H E hr
  exact (pssx_cons (psx_if (ptx_cmp (ox_eq rfl hr.units) (px_callB (cx_len rfl) m_len (pax_cons (px_var 0) pax_nil)) px_int) (pssx_one (psx_ret (pxg_make 0 fits_body h_Plan_d_initd_ (hr.mono (j := 2) (by decide)) cb_nil))) pssx_nil)
    (pssx_cons (psx_if (ptx_cmp (ox_eq rfl hr.units) (px_callB (cx_len rfl) m_len (pax_cons (px_var 0) pax_nil)) px_int) (pssx_one (psx_ret (pxg_make 0 fits_body h_Plan_d_initd_ (hr.mono (j := 2) (by decide)) (cb_plain (pax_cons (px_ix rfl (px_var 0) px_int) pax_nil))))) pssx_nil)
    (pssx_cons (psx_if (ptx_cmp (ox_eq rfl hr.units) (px_callB (cx_len rfl) m_len (pax_cons (px_var 0) pax_nil)) px_int) (pssx_one (psx_ret (pxg_make 0 fits_body h_Plan_d_initd_ (hr.mono (j := 2) (by decide)) (cb_plain (pax_cons (px_ix rfl (px_var 0) px_int) (pax_cons (px_callTy (cx_tuple rfl) m_tuple (pax_cons (px_ix rfl (px_var 0) px_int) pax_nil)) pax_nil)))))) pssx_nil)
    (pssx_cons (psx_if (ptx_cmp (ox_eq rfl hr.units) (px_callB (cx_len rfl) m_len (pax_cons (px_var 0) pax_nil)) px_int) (pssx_one (psx_ret (pxg_make 0 fits_body h_Plan_d_initd_ (hr.mono (j := 2) (by decide)) (cb_plain (pax_cons (px_ix rfl (px_var 0) px_int) (pax_cons (px_ix rfl (px_var 0) px_int) (pax_cons (px_ix rfl (px_var 0) px_int) pax_nil))))))) pssx_nil)
    (pssx_cons (psx_set 1 sc_law_plan.nd (pxg_make 0 fits_body h_Plan_d_initd_ (hr.mono (j := 2) (by decide)) (cb_plain (pax_cons (px_ix rfl (px_var 0) px_int) pax_nil))))
    (pssx_cons (psx_for own_body rfl (pix_seq fits_body (px_slice rfl (px_var 0) (pox_some px_int) pox_none)) (pgx_name 2 sc_law_plan.nd) (pssx_one (psx_set 1 sc_law_plan.nd (px_op (oxg_own2 rfl h_Plan_d_addd_ sf_0 (hr.mono (j := 3) (by decide))) (px_var 1) (pxg_make 0 fits_body h_Plan_d_initd_ (hr.mono (j := 2) (by decide)) (cb_plain (pax_cons (px_var 2) pax_nil)))))))
    (pssx_one (psx_ret (px_op (oxg_own2 rfl h_Plan_d_addd_ sf_0 (hr.mono (j := 3) (by decide))) (pxg_make 0 fits_body h_Plan_d_initd_ (hr.mono (j := 2) (by decide)) (cb_plain (pax_cons (px_callTy (cx_tuple rfl) m_tuple (pax_cons (px_ix rfl (px_var 0) px_int) pax_nil)) (pax_cons (px_ix rfl (px_var 0) px_int) (pax_cons (px_ix rfl (px_var 0) px_int) pax_nil))))) (px_var 1))))))))))
abbrev st_Plan_d_eqd_ : Stmt := inClass (top 1) 4
theorem sc_Plan_d_eqd_ : FnScope [(PySem.Str.ofString "self"), (PySem.Str.ofString "other")] [(PySem.Str.ofString "self"), (PySem.Str.ofString "other")] (defScope st_Plan_d_eqd_) := ⟨rfl, rfl, rfl, by decide +kernel, rfl, by decide +kernel, by decide +kernel⟩
theorem bx_Plan_d_eqd_ {P : Program} {w : World} {T : Tb} {mg : Str → Option Value} {base : Heap} {f : Addr} (is_0 : IsG T mg 0 (PySem.Str.ofString "Plan") true) (m_isinstance : mg (PySem.Str.ofString "isinstance") = none) (ft_0 : T.FT[0]? = some (PySem.Str.ofString "groups")) : BodyX P w T mg base 0 [(PySem.Str.ofString "self"), (PySem.Str.ofString "other")] (PySem.Str.ofString "Plan.__eq__") st_Plan_d_eqd_ f den_Plan_d_eqd_ := by
  intro cdv A outer s H E hr
  exact (pssx_one (psx_ret (px_and (pxg_isC fits_body is_0 m_isinstance (px_var 1)) (px_one (px_cmp (ox_eq rfl hr.units) (px_fld 0 fits_body ft_0 (px_var 0)) (px_fld 0 fits_body ft_0 (px_var 1)))))))
abbrev st_Plan_d_iterd_ : Stmt := inClass (top 1) 1
theorem sc_Plan_d_iterd_ : FnScope [(PySem.Str.ofString "self")] [(PySem.Str.ofString "self")] (defScope st_Plan_d_iterd_) := ⟨rfl, rfl, rfl, by decide +kernel, rfl, by decide +kernel, by decide +kernel⟩
abbrev st_Plan_d_lend_ : Stmt := inClass (top 1) 2
theorem sc_Plan_d_lend_ : FnScope [(PySem.Str.ofString "self")] [(PySem.Str.ofString "self")] (defScope st_Plan_d_lend_) := ⟨rfl, rfl, rfl, by decide +kernel, rfl, by decide +kernel, by decide +kernel⟩
theorem bx_Plan_d_lend_ {P : Program} {w : World} {T : Tb} {mg : Str → Option Value} {base : Heap} {f : Addr} (ft_0 : T.FT[0]? = some (PySem.Str.ofString "groups")) (m_len : mg (PySem.Str.ofString "len") = none) : BodyX P w T mg base 0 [(PySem.Str.ofString "self")] (PySem.Str.ofString "Plan.__len__") st_Plan_d_lend_ f den_Plan_d_lend_ := by
  intro cdv A outer s H E hr
  exact (pssx_one (psx_ret (px_callB (cx_len rfl) m_len (pax_cons (px_fld 0 fits_body ft_0 (px_var 0)) pax_nil))))
abbrev st_Plan_walks : Stmt := inClass (top 1) 12
theorem sc_Plan_walks : FnScope [(PySem.Str.ofString "self"), (PySem.Str.ofString "group"), (PySem.Str.ofString "name")] [(PySem.Str.ofString "self")] (defScope st_Plan_walks) := ⟨rfl, rfl, rfl, by decide +kernel, rfl, by decide +kernel, by decide +kernel⟩
theorem bx_Plan_walks {P : Program} {w : World} {T : Tb} {mg : Str → Option Value} {base : Heap} {f : Addr} (ft_0 : T.FT[0]? = some (PySem.Str.ofString "groups")) (m_tuple : mg (PySem.Str.ofString "tuple") = none) : BodyX P w T mg base 0 [(PySem.Str.ofString "self"), (PySem.Str.ofString "group"), (PySem.Str.ofString "name")] (PySem.Str.ofString "Plan.walks") st_Plan_walks f den_Plan_walks := by
  intro cdv A outer s H E hr
  exact (pssx_one (psx_ret (px_callTy (cx_tuple rfl) m_tuple (pax_cons (px_lc2 (own := [((PySem.Str.ofString "group"), 1), ((PySem.Str.ofString "name"), 2)]) rfl sc_Plan_walks.nd (pix_seq fits_body (px_fld 0 fits_body ft_0 (px_var 0))) (ok := (show BlkOk [(PySem.Str.ofString "self"), (PySem.Str.ofString "group"), (PySem.Str.ofString "name")] (defScope st_Plan_walks) _ [((PySem.Str.ofString "group"), 1), ((PySem.Str.ofString "name"), 2)] from ⟨rfl, by decide +kernel, by decide +kernel, by decide +kernel, by decide +kernel⟩)) (vs1 := [2]) (by decide) (by decide) (by decide) (fun _ _ _ _ _ => (pgx_name 1 sc_Plan_walks.nd)) (fun _ _ _ _ _ => ptsx_nil) (fun _ _ _ _ _ => (pix_seq (fits_blk rfl) (px_var 1))) (fun _ _ _ _ _ => (pgx_name 2 sc_Plan_walks.nd)) (fun _ _ _ _ _ => ptsx_nil) (fun _ _ _ _ _ => (px_var 2))) pax_nil))))
abbrev st_Plan_d_containsd_ : Stmt := inClass (top 1) 5
theorem sc_Plan_d_containsd_ : FnScope [(PySem.Str.ofString "self"), (PySem.Str.ofString "name")] [(PySem.Str.ofString "self"), (PySem.Str.ofString "name")] (defScope st_Plan_d_containsd_) := ⟨rfl, rfl, rfl, by decide +kernel, rfl, by decide +kernel, by decide +kernel⟩
theorem bx_Plan_d_containsd_ {P : Program} {w : World} {T : Tb} {mg : Str → Option Value} {base : Heap} {f : Addr} (h_Plan_walks : PrG P w T mg base 1 0 (PySem.Str.ofString "walks") G_Plan_walks) : BodyX P w T mg base 2 [(PySem.Str.ofString "self"), (PySem.Str.ofString "name")] (PySem.Str.ofString "Plan.__contains__") st_Plan_d_containsd_ f den_Plan_d_containsd_ := by
  intro cdv A outer s H E hr
  exact (pssx_one (psx_ret (px_cmp (ox_in rfl (u65 hr)) (px_var 1) (pxg_prop 0 fits_body h_Plan_walks (hr.mono (j := 2) (by decide)) (px_var 0)))))
abbrev st_Plan_d_strd_ : Stmt := inClass (top 1) 3
theorem sc_Plan_d_strd_ : FnScope [(PySem.Str.ofString "self"), (PySem.Str.ofString "group")] [(PySem.Str.ofString "self")] (defScope st_Plan_d_strd_) := ⟨rfl, rfl, rfl, by decide +kernel, rfl, by decide +kernel, by decide +kernel⟩
theorem bx_Plan_d_strd_ {P : Program} {w : World} {T : Tb} {mg : Str → Option Value} {base : Heap} {f : Addr} (ft_0 : T.FT[0]? = some (PySem.Str.ofString "groups")) : BodyX P w T mg base 0 [(PySem.Str.ofString "self"), (PySem.Str.ofString "group")] (PySem.Str.ofString "Plan.__str__") st_Plan_d_strd_ f den_Plan_d_strd_ := by
  intro cdv A outer s H E hr
  exact (pssx_one (psx_ret (px_join rfl px_str (px_lc (own := [((PySem.Str.ofString "group"), 1)]) rfl sc_Plan_d_strd_.nd (pix_seq fits_body (px_fld 0 fits_body ft_0 (px_var 0))) (ok := (show BlkOk [(PySem.Str.ofString "self"), (PySem.Str.ofString "group")] (defScope st_Plan_d_strd_) _ [((PySem.Str.ofString "group"), 1)] from ⟨rfl, by decide +kernel, by decide +kernel, by decide +kernel, by decide +kernel⟩)) (by decide) (fun _ _ _ _ _ => (pgx_name 1 sc_Plan_d_strd_.nd)) (fun _ _ _ _ _ => ptsx_nil) (fun _ _ _ _ _ => (px_join rfl px_str (px_var 1)))))))
abbrev st_law_is : Stmt := top 10
theorem sc_law_is : FnScope [(PySem.Str.ofString "_law_plan_here"), (PySem.Str.ofString "_law_groups_here"), (PySem.Str.ofString "_law_names_here"), (PySem.Str.ofString "_law_due"), (PySem.Str.ofString "_law_walks"), (PySem.Str.ofString "_law_group"), (PySem.Str.ofString "_law_name")] [(PySem.Str.ofString "_law_plan_here"), (PySem.Str.ofString "_law_groups_here"), (PySem.Str.ofString "_law_names_here")] (defScope st_law_is) := ⟨rfl, rfl, rfl, by decide +kernel, rfl, by decide +kernel, by decide +kernel⟩
theorem bx_law_is {P : Program} {w : World} {T : Tb} {mg : Str → Option Value} {base : Heap} {f : Addr} (m_len : mg (PySem.Str.ofString "len") = none) (m_tuple : mg (PySem.Str.ofString "tuple") = none) (m_list : mg (PySem.Str.ofString "list") = none) (h_Plan_d_iterd_ : ItG P w T mg base 1 0 0) (h_Plan_d_lend_ : MtG P w T mg base 1 0 (PySem.Str.ofString "__len__") G_Plan_d_lend_) (h_Plan_walks : PrG P w T mg base 1 0 (PySem.Str.ofString "walks") G_Plan_walks) (h_Plan_d_containsd_ : MtG P w T mg base 3 0 (PySem.Str.ofString "__contains__") G_Plan_d_containsd_) (h_Plan_d_strd_ : MtG P w T mg base 1 0 (PySem.Str.ofString "__str__") G_Plan_d_strd_) (m_str : mg (PySem.Str.ofString "str") = none) : BodyX P w T mg base 3 [(PySem.Str.ofString "_law_plan_here"), (PySem.Str.ofString "_law_groups_here"), (PySem.Str.ofString "_law_names_here"), (PySem.Str.ofString "_law_due"), (PySem.Str.ofString "_law_walks"), (PySem.Str.ofString "_law_group"), (PySem.Str.ofString "_law_name")] (PySem.Str.ofString "_law_is") st_law_is f den_law_is := by
  intro cdv A outer s H E hr
  exact (pssx_cons (psx_setLc 3 (own := [((PySem.Str.ofString "_law_group"), 5)]) rfl sc_law_is.nd (pix_seq fits_body (px_var 1)) (ok := (show BlkOk [(PySem.Str.ofString "_law_plan_here"), (PySem.Str.ofString "_law_groups_here"), (PySem.Str.ofString "_law_names_here"), (PySem.Str.ofString "_law_due"), (PySem.Str.ofString "_law_walks"), (PySem.Str.ofString "_law_group"), (PySem.Str.ofString "_law_name")] (defScope st_law_is) _ [((PySem.Str.ofString "_law_group"), 5)] from ⟨rfl, by decide +kernel, by decide +kernel, by decide +kernel, by decide +kernel⟩)) (by decide) (fun _ _ _ _ _ => (pgx_name 5 sc_law_is.nd)) (fun _ _ _ _ _ => (ptsx_one (ptx_cmp (ox_gt) (px_callB (cx_len rfl) m_len (pax_cons (px_var 5) pax_nil)) px_int))) (fun _ _ _ _ _ => (px_callTy (cx_tuple rfl) m_tuple (pax_cons (px_var 5) pax_nil))))
    (pssx_cons (psx_set 4 sc_law_is.nd (px_lst pax_nil))
    (pssx_cons (psx_for own_body rfl (pix_seq fits_body (px_var 3)) (pgx_name 5 sc_law_is.nd) (pssx_one (psx_set 4 sc_law_is.nd (px_op (ox_add rfl) (px_var 4) (px_callTy (cx_list rfl) m_list (pax_cons (px_var 5) pax_nil))))))
    (pssx_cons (psx_if (ptx_bool (pwx_or (ptx_cmp (ox_ne rfl hr.units) (px_lc (own := [((PySem.Str.ofString "_law_group"), 5)]) rfl sc_law_is.nd (pixg_own fits_body h_Plan_d_iterd_ (hr.mono (j := 1) (by decide)) (px_var 0)) (ok := (show BlkOk [(PySem.Str.ofString "_law_plan_here"), (PySem.Str.ofString "_law_groups_here"), (PySem.Str.ofString "_law_names_here"), (PySem.Str.ofString "_law_due"), (PySem.Str.ofString "_law_walks"), (PySem.Str.ofString "_law_group"), (PySem.Str.ofString "_law_name")] (defScope st_law_is) _ [((PySem.Str.ofString "_law_group"), 5)] from ⟨rfl, by decide +kernel, by decide +kernel, by decide +kernel, by decide +kernel⟩)) (by decide) (fun _ _ _ _ _ => (pgx_name 5 sc_law_is.nd)) (fun _ _ _ _ _ => ptsx_nil) (fun _ _ _ _ _ => (px_var 5))) (px_var 3)) (pwx_or (ptx_cmp (ox_ne rfl hr.units) (px_callB (cxg_ownLen rfl h_Plan_d_lend_ (hr.mono (j := 2) (by decide))) m_len (pax_cons (px_var 0) pax_nil)) (px_callB (cx_len rfl) m_len (pax_cons (px_var 3) pax_nil))) (pwx_or1 (ptx_cmp (ox_ne rfl hr.units) (pxg_prop 0 fits_body h_Plan_walks (hr.mono (j := 2) (by decide)) (px_var 0)) (px_callTy (cx_tuple rfl) m_tuple (pax_cons (px_var 4) pax_nil))))))) (pssx_one (psx_ret px_bl)) pssx_nil)
    (pssx_cons (psx_for own_body rfl (pix_seq fits_body (px_op (ox_add rfl) (px_var 2) (px_lst (pax_cons px_str pax_nil)))) (pgx_name 6 sc_law_is.nd) (pssx_one (psx_if (ptx_cmp (ox_ne rfl hr.units) (px_cmp (oxg_ownIn rfl h_Plan_d_containsd_ (hr.mono (j := 3) (by decide))) (px_var 6) (px_var 0)) (px_cmp (ox_in rfl (u65 hr)) (px_var 6) (px_var 4))) (pssx_one (psx_ret px_bl)) pssx_nil)))
    (pssx_one (psx_ret (px_cmp (ox_eq rfl hr.units) (px_callTy (cxg_ownStr rfl h_Plan_d_strd_ (hr.mono (j := 3) (by decide))) m_str (pax_cons (px_var 0) pax_nil)) (px_join rfl px_str (px_lc (own := [((PySem.Str.ofString "_law_group"), 5)]) rfl sc_law_is.nd (pix_seq fits_body (px_var 3)) (ok := (show BlkOk [(PySem.Str.ofString "_law_plan_here"), (PySem.Str.ofString "_law_groups_here"), (PySem.Str.ofString "_law_names_here"), (PySem.Str.ofString "_law_due"), (PySem.Str.ofString "_law_walks"), (PySem.Str.ofString "_law_group"), (PySem.Str.ofString "_law_name")] (defScope st_law_is) _ [((PySem.Str.ofString "_law_group"), 5)] from ⟨rfl, by decide +kernel, by decide +kernel, by decide +kernel, by decide +kernel⟩)) (by decide) (fun _ _ _ _ _ => (pgx_name 5 sc_law_is.nd)) (fun _ _ _ _ _ => ptsx_nil) (fun _ _ _ _ _ => (px_join rfl px_str (px_var 5)))))))))))))
abbrev st_Plan_d_ord_ : Stmt := inClass (top 1) 7
theorem sc_Plan_d_ord_ : FnScope [(PySem.Str.ofString "self"), (PySem.Str.ofString "other")] [(PySem.Str.ofString "self"), (PySem.Str.ofString "other")] (defScope st_Plan_d_ord_) := ⟨rfl, rfl, rfl, by decide +kernel, rfl, by decide +kernel, by decide +kernel⟩
theorem bx_Plan_d_ord_ {P : Program} {w : World} {T : Tb} {mg : Str → Option Value} {base : Heap} {f : Addr} (h_Plan_d_initd_ : ClG P w T mg base 1 0 (PySem.Str.ofString "Plan") G_Plan_d_initd_) (h_Plan_walks : PrG P w T mg base 1 0 (PySem.Str.ofString "walks") G_Plan_walks) : BodyX P w T mg base 2 [(PySem.Str.ofString "self"), (PySem.Str.ofString "other")] (PySem.Str.ofString "Plan.__or__") st_Plan_d_ord_ f den_Plan_d_ord_ := by
  intro cdv A outer s H E hr
  exact (pssx_one (psx_ret (pxg_make 0 fits_body h_Plan_d_initd_ (hr.mono (j := 2) (by decide)) (cb_plain (pax_cons (px_op (ox_add rfl) (pxg_prop 0 fits_body h_Plan_walks (hr.mono (j := 2) (by decide)) (px_var 0)) (pxg_prop 0 fits_body h_Plan_walks (hr.mono (j := 2) (by decide)) (px_var 1))) pax_nil)))))
abbrev st_Plan_d_muld_ : Stmt := inClass (top 1) 8
theorem sc_Plan_d_muld_ : FnScope [(PySem.Str.ofString "self"), (PySem.Str.ofString "times"), (PySem.Str.ofString "groups")] [(PySem.Str.ofString "self"), (PySem.Str.ofString "times")] (defScope st_Plan_d_muld_) := ⟨rfl, rfl, rfl, by decide +kernel, rfl, by decide +kernel, by decide +kernel⟩
theorem bx_Plan_d_muld_ {P : Program} {w : World} {T : Tb} {mg : Str → Option Value} {base : Heap} {f : Addr} (ft_0 : T.FT[0]? = some (PySem.Str.ofString "groups")) (h_Plan_d_initd_ : ClG P w T mg base 1 0 (PySem.Str.ofString "Plan") G_Plan_d_initd_) : BodyX P w T mg base 2 [(PySem.Str.ofString "self"), (PySem.Str.ofString "times"), (PySem.Str.ofString "groups")] (PySem.Str.ofString "Plan.__mul__") st_Plan_d_muld_ f den_Plan_d_muld_ := by
  intro cdv A outer s H E hr
  exact (pssx_cons (psx_set 2 sc_Plan_d_muld_.nd (px_op (ox_mul) (px_fld 0 fits_body ft_0 (px_var 0)) (px_var 1)))
    (pssx_one (psx_ret (pxg_make 0 fits_body h_Plan_d_initd_ (hr.mono (j := 2) (by decide)) (cb_star1 fits_body (px_var 2))))))
abbrev st_Plan_d_rmuld_ : Stmt := inClass (top 1) 9
theorem sc_Plan_d_rmuld_ : FnScope [(PySem.Str.ofString "self"), (PySem.Str.ofString "times"), (PySem.Str.ofString "groups")] [(PySem.Str.ofString "self"), (PySem.Str.ofString "times")] (defScope st_Plan_d_rmuld_) := ⟨rfl, rfl, rfl, by decide +kernel, rfl, by decide +kernel, by decide +kernel⟩
theorem bx_Plan_d_rmuld_ {P : Program} {w : World} {T : Tb} {mg : Str → Option Value} {base : Heap} {f : Addr} (ft_0 : T.FT[0]? = some (PySem.Str.ofString "groups")) (h_Plan_d_initd_ : ClG P w T mg base 1 0 (PySem.Str.ofString "Plan") G_Plan_d_initd_) : BodyX P w T mg base 2 [(PySem.Str.ofString "self"), (PySem.Str.ofString "times"), (PySem.Str.ofString "groups")] (PySem.Str.ofString "Plan.__rmul__") st_Plan_d_rmuld_ f den_Plan_d_rmuld_ := by
  intro cdv A outer s H E hr
  exact (pssx_cons (psx_set 2 sc_Plan_d_rmuld_.nd (px_op (ox_mul) (px_fld 0 fits_body ft_0 (px_var 0)) (px_var 1)))
    (pssx_one (psx_ret (pxg_make 0 fits_body h_Plan_d_initd_ (hr.mono (j := 2) (by decide)) (cb_star1 fits_body (px_var 2))))))
abbrev st_Plan_apart : Stmt := inClass (top 1) 13
theorem sc_Plan_apart : FnScope [(PySem.Str.ofString "names"), (PySem.Str.ofString "groups"), (PySem.Str.ofString "name")] [(PySem.Str.ofString "names")] (defScope st_Plan_apart) := ⟨rfl, rfl, rfl, by decide +kernel, rfl, by decide +kernel, by decide +kernel⟩
theorem bx_Plan_apart {P : Program} {w : World} {T : Tb} {mg : Str → Option Value} {base : Heap} {f : Addr} (h_Plan_d_initd_ : ClG P w T mg base 1 0 (PySem.Str.ofString "Plan") G_Plan_d_initd_) : BodyX P w T mg base 2 [(PySem.Str.ofString "names"), (PySem.Str.ofString "groups"), (PySem.Str.ofString "name")] (PySem.Str.ofString "Plan.apart") st_Plan_apart f den_Plan_apart := by
  intro cdv A outer s H E hr
  exact (pssx_cons (psx_setLc 1 (own := [((PySem.Str.ofString "name"), 2)]) rfl sc_Plan_apart.nd (pix_seq fits_body (px_var 0)) (ok := (show BlkOk [(PySem.Str.ofString "names"), (PySem.Str.ofString "groups"), (PySem.Str.ofString "name")] (defScope st_Plan_apart) _ [((PySem.Str.ofString "name"), 2)] from ⟨rfl, by decide +kernel, by decide +kernel, by decide +kernel, by decide +kernel⟩)) (by decide) (fun _ _ _ _ _ => (pgx_name 2 sc_Plan_apart.nd)) (fun _ _ _ _ _ => ptsx_nil) (fun _ _ _ _ _ => (px_tup (pax_cons (px_var 2) pax_nil))))
    (pssx_one (psx_ret (pxg_make 0 fits_body h_Plan_d_initd_ (hr.mono (j := 2) (by decide)) (cb_star1 fits_body (px_var 1))))))
abbrev st_law_apart : Stmt := top 8
theorem sc_law_apart : FnScope [(PySem.Str.ofString "_law_names_here")] [(PySem.Str.ofString "_law_names_here")] (defScope st_law_apart) := ⟨rfl, rfl, rfl, by decide +kernel, rfl, by decide +kernel, by decide +kernel⟩
theorem bx_law_apart {P : Program} {w : World} {T : Tb} {mg : Str → Option Value} {base : Heap} {f : Addr} (m_len : mg (PySem.Str.ofString "len") = none) (h_Plan_apart : SmG P w T mg base 3 (PySem.Str.ofString "Plan") (PySem.Str.ofString "apart") G_Plan_apart) : BodyX P w T mg base 3 [(PySem.Str.ofString "_law_names_here")] (PySem.Str.ofString "_law_apart") st_law_apart f den_law_apart := by
  intro cdv A outer s H E hr
  exact (pssx_cons (psx_if (ptx_cmp (ox_eq rfl hr.units) (px_callB (cx_len rfl) m_len (pax_cons (px_var 0) pax_nil)) px_int) (pssx_one (psx_ret (pxg_static fits_body h_Plan_apart (hr.mono (j := 3) (by decide)) cb_nil))) pssx_nil)
    (pssx_cons (psx_if (ptx_cmp (ox_eq rfl hr.units) (px_callB (cx_len rfl) m_len (pax_cons (px_var 0) pax_nil)) px_int) (pssx_one (psx_ret (pxg_static fits_body h_Plan_apart (hr.mono (j := 3) (by decide)) (cb_plain (pax_cons (px_ix rfl (px_var 0) px_int) pax_nil))))) pssx_nil)
    (pssx_cons (psx_if (ptx_cmp (ox_eq rfl hr.units) (px_callB (cx_len rfl) m_len (pax_cons (px_var 0) pax_nil)) px_int) (pssx_one (psx_ret (pxg_static fits_body h_Plan_apart (hr.mono (j := 3) (by decide)) (cb_plain (pax_cons (px_ix rfl (px_var 0) px_int) (pax_cons (px_ix rfl (px_var 0) px_int) pax_nil)))))) pssx_nil)
    (pssx_one (psx_ret (pxg_static fits_body h_Plan_apart (hr.mono (j := 3) (by decide)) (cb_plain (pax_cons (px_ix rfl (px_var 0) px_int) (pax_cons (px_ix rfl (px_var 0) px_int) (pax_cons (px_ix rfl (px_var 0) px_int) pax_nil))))))))))
abbrev st_Plan_together : Stmt := inClass (top 1) 14
theorem sc_Plan_together : FnScope [(PySem.Str.ofString "names")] [(PySem.Str.ofString "names")] (defScope st_Plan_together) := ⟨rfl, rfl, rfl, by decide +kernel, rfl, by decide +kernel, by decide +kernel⟩
theorem bx_Plan_together {P : Program} {w : World} {T : Tb} {mg : Str → Option Value} {base : Heap} {f : Addr} (h_Plan_d_initd_ : ClG P w T mg base 1 0 (PySem.Str.ofString "Plan") G_Plan_d_initd_) : BodyX P w T mg base 2 [(PySem.Str.ofString "names")] (PySem.Str.ofString "Plan.together") st_Plan_together f den_Plan_together := by
  intro cdv A outer s H E hr
  exact (pssx_one (psx_ret (pxg_make 0 fits_body h_Plan_d_initd_ (hr.mono (j := 2) (by decide)) (cb_plain (pax_cons (px_var 0) pax_nil)))))
abbrev st_law_together : Stmt := top 9
theorem sc_law_together : FnScope [(PySem.Str.ofString "_law_names_here")] [(PySem.Str.ofString "_law_names_here")] (defScope st_law_together) := ⟨rfl, rfl, rfl, by decide +kernel, rfl, by decide +kernel, by decide +kernel⟩
theorem bx_law_together {P : Program} {w : World} {T : Tb} {mg : Str → Option Value} {base : Heap} {f : Addr} (m_len : mg (PySem.Str.ofString "len") = none) (h_Plan_together : SmG P w T mg base 3 (PySem.Str.ofString "Plan") (PySem.Str.ofString "together") G_Plan_together) : BodyX P w T mg base 3 [(PySem.Str.ofString "_law_names_here")] (PySem.Str.ofString "_law_together") st_law_together f den_law_together := by
  intro cdv A outer s H E hr
  exact (pssx_cons (psx_if (ptx_cmp (ox_eq rfl hr.units) (px_callB (cx_len rfl) m_len (pax_cons (px_var 0) pax_nil)) px_int) (pssx_one (psx_ret (pxg_static fits_body h_Plan_together (hr.mono (j := 3) (by decide)) cb_nil))) pssx_nil)
    (pssx_cons (psx_if (ptx_cmp (ox_eq rfl hr.units) (px_callB (cx_len rfl) m_len (pax_cons (px_var 0) pax_nil)) px_int) (pssx_one (psx_ret (pxg_static fits_body h_Plan_together (hr.mono (j := 3) (by decide)) (cb_plain (pax_cons (px_ix rfl (px_var 0) px_int) pax_nil))))) pssx_nil)
    (pssx_cons (psx_if (ptx_cmp (ox_eq rfl hr.units) (px_callB (cx_len rfl) m_len (pax_cons (px_var 0) pax_nil)) px_int) (pssx_one (psx_ret (pxg_static fits_body h_Plan_together (hr.mono (j := 3) (by decide)) (cb_plain (pax_cons (px_ix rfl (px_var 0) px_int) (pax_cons (px_ix rfl (px_var 0) px_int) pax_nil)))))) pssx_nil)
    (pssx_one (psx_ret (pxg_static fits_body h_Plan_together (hr.mono (j := 3) (by decide)) (cb_plain (pax_cons (px_ix rfl (px_var 0) px_int) (pax_cons (px_ix rfl (px_var 0) px_int) (pax_cons (px_ix rfl (px_var 0) px_int) pax_nil))))))))))
abbrev st_law : Stmt := top 11
theorem sc_law : FnScope [(PySem.Str.ofString "_law_script"), (PySem.Str.ofString "_law_source_here"), (PySem.Str.ofString "_law_names_here"), (PySem.Str.ofString "_law_one"), (PySem.Str.ofString "_law_two"), (PySem.Str.ofString "_law_given"), (PySem.Str.ofString "_law_first"), (PySem.Str.ofString "_law_group"), (PySem.Str.ofString "_law_second"), (PySem.Str.ofString "_law_times"), (PySem.Str.ofString "_law_few"), (PySem.Str.ofString "_law_joined"), (PySem.Str.ofString "_law_flat"), (PySem.Str.ofString "_law_same"), (PySem.Str.ofString "_law_n"), (PySem.Str.ofString "_law_name")] [(PySem.Str.ofString "_law_script")] (defScope st_law) := ⟨rfl, rfl, rfl, by decide +kernel, rfl, by decide +kernel, by decide +kernel⟩
theorem bx_law {P : Program} {w : World} {T : Tb} {mg : Str → Option Value} {base : Heap} {f : Addr} (h_law_source : FnG P w T mg base 1 (PySem.Str.ofString "_law_source") G_law_source) (h_law_names : FnG P w T mg base 2 (PySem.Str.ofString "_law_names") G_law_names) (h_law_groups : FnG P w T mg base 2 (PySem.Str.ofString "_law_groups") G_law_groups) (m_list : mg (PySem.Str.ofString "list") = none) (h_law_plan : FnG P w T mg base 4 (PySem.Str.ofString "_law_plan") G_law_plan) (h_law_draw : FnG P w T mg base 1 (PySem.Str.ofString "_law_draw") G_law_draw) (m_range : mg (PySem.Str.ofString "range") = none) (m_len : mg (PySem.Str.ofString "len") = none) (m_tuple : mg (PySem.Str.ofString "tuple") = none) (h_Plan_d_eqd_ : MtG P w T mg base 1 0 (PySem.Str.ofString "__eq__") G_Plan_d_eqd_) (nf_0 : NfG T 0) (m_isinstance : mg (PySem.Str.ofString "isinstance") = none) (m_bool : mg (PySem.Str.ofString "bool") = none) (h_law_is : FnG P w T mg base 4 (PySem.Str.ofString "_law_is") G_law_is) (h_Plan_d_addd_ : MtG P w T mg base 3 0 (PySem.Str.ofString "__add__") G_Plan_d_addd_) (sf_0 : SfG T 0) (h_Plan_d_ord_ : MtG P w T mg base 3 0 (PySem.Str.ofString "__or__") G_Plan_d_ord_) (h_Plan_d_muld_ : MtG P w T mg base 3 0 (PySem.Str.ofString "__mul__") G_Plan_d_muld_) (oi_0 : OiG T 0 "mul") (h_Plan_d_rmuld_ : MtG P w T mg base 3 0 (PySem.Str.ofString "__rmul__") G_Plan_d_rmuld_) (ri_0 : RiG T 0) (h_law_apart : FnG P w T mg base 4 (PySem.Str.ofString "_law_apart") G_law_apart) (h_law_together : FnG P w T mg base 4 (PySem.Str.ofString "_law_together") G_law_together) (h_Plan_d_initd_ : ClG P w T mg base 1 0 (PySem.Str.ofString "Plan") G_Plan_d_initd_) : BodyX P w T mg base 4 [(PySem.Str.ofString "_law_script"), (PySem.Str.ofString "_law_source_here"), (PySem.Str.ofString "_law_names_here"), (PySem.Str.ofString "_law_one"), (PySem.Str.ofString "_law_two"), (PySem.Str.ofString "_law_given"), (PySem.Str.ofString "_law_first"), (PySem.Str.ofString "_law_group"), (PySem.Str.ofString "_law_second"), (PySem.Str.ofString "_law_times"), (PySem.Str.ofString "_law_few"), (PySem.Str.ofString "_law_joined"), (PySem.Str.ofString "_law_flat"), (PySem.Str.ofString "_law_same"), (PySem.Str.ofString "_law_n"), (PySem.Str.ofString "_law_name")] (PySem.Str.ofString "law") st_law f den_law := by
  intro cdv A outer s H E hr
  exact (pssx_cons (psx_set 1 sc_law.nd (pxg_call fits_body h_law_source (hr.mono (j := 1) (by decide)) (cb_plain (pax_cons (px_var 0) pax_nil))))
    (pssx_cons (psx_set 2 sc_law.nd (pxg_call fits_body h_law_names (hr.mono (j := 2) (by decide)) (cb_plain (pax_cons (px_var 1) (pax_cons px_int pax_nil)))))
    (pssx_cons (psx_set 3 sc_law.nd (pxg_call fits_body h_law_groups (hr.mono (j := 2) (by decide)) (cb_plain (pax_cons (px_var 1) (pax_cons (px_var 2) pax_nil)))))
    (pssx_cons (psx_set 4 sc_law.nd (pxg_call fits_body h_law_groups (hr.mono (j := 2) (by decide)) (cb_plain (pax_cons (px_var 1) (pax_cons (px_var 2) pax_nil)))))
    (pssx_cons (psx_setLc 5 (own := [((PySem.Str.ofString "_law_group"), 7)]) rfl sc_law.nd (pix_seq fits_body (px_var 3)) (ok := (show BlkOk [(PySem.Str.ofString "_law_script"), (PySem.Str.ofString "_law_source_here"), (PySem.Str.ofString "_law_names_here"), (PySem.Str.ofString "_law_one"), (PySem.Str.ofString "_law_two"), (PySem.Str.ofString "_law_given"), (PySem.Str.ofString "_law_first"), (PySem.Str.ofString "_law_group"), (PySem.Str.ofString "_law_second"), (PySem.Str.ofString "_law_times"), (PySem.Str.ofString "_law_few"), (PySem.Str.ofString "_law_joined"), (PySem.Str.ofString "_law_flat"), (PySem.Str.ofString "_law_same"), (PySem.Str.ofString "_law_n"), (PySem.Str.ofString "_law_name")] (defScope st_law) _ [((PySem.Str.ofString "_law_group"), 7)] from ⟨rfl, by decide +kernel, by decide +kernel, by decide +kernel, by decide +kernel⟩)) (by decide) (fun _ _ _ _ _ => (pgx_name 7 sc_law.nd)) (fun _ _ _ _ _ => ptsx_nil) (fun _ _ _ _ _ => (px_callTy (cx_list rfl) m_list (pax_cons (px_var 7) pax_nil))))
    (pssx_cons (psx_set 6 sc_law.nd (pxg_call fits_body h_law_plan (hr.mono (j := 4) (by decide)) (cb_plain (pax_cons (px_var 5) pax_nil))))
    (pssx_cons (psx_if (ptx_cmp (ox_ne rfl hr.units) (px_var 5) (px_var 3)) (pssx_one (psx_ret px_bl)) pssx_nil)
    (pssx_cons (psx_for own_body rfl (pix_seq fits_body (px_var 5)) (pgx_name 7 sc_law.nd) (pssx_one (psx_expr (px_app (px_var 7) px_str))))
    (pssx_cons (psx_expr (px_app (px_var 5) (px_lst (pax_cons px_str pax_nil))))
    (pssx_cons (psx_set 8 sc_law.nd (pxg_call fits_body h_law_plan (hr.mono (j := 4) (by decide)) (cb_plain (pax_cons (px_lc (own := [((PySem.Str.ofString "_law_group"), 7)]) rfl sc_law.nd (pix_seq fits_body (px_var 4)) (ok := (show BlkOk [(PySem.Str.ofString "_law_script"), (PySem.Str.ofString "_law_source_here"), (PySem.Str.ofString "_law_names_here"), (PySem.Str.ofString "_law_one"), (PySem.Str.ofString "_law_two"), (PySem.Str.ofString "_law_given"), (PySem.Str.ofString "_law_first"), (PySem.Str.ofString "_law_group"), (PySem.Str.ofString "_law_second"), (PySem.Str.ofString "_law_times"), (PySem.Str.ofString "_law_few"), (PySem.Str.ofString "_law_joined"), (PySem.Str.ofString "_law_flat"), (PySem.Str.ofString "_law_same"), (PySem.Str.ofString "_law_n"), (PySem.Str.ofString "_law_name")] (defScope st_law) _ [((PySem.Str.ofString "_law_group"), 7)] from ⟨rfl, by decide +kernel, by decide +kernel, by decide +kernel, by decide +kernel⟩)) (by decide) (fun _ _ _ _ _ => (pgx_name 7 sc_law.nd)) (fun _ _ _ _ _ => ptsx_nil) (fun _ _ _ _ _ => (px_callTy (cx_list rfl) m_list (pax_cons (px_var 7) pax_nil)))) pax_nil))))
    (pssx_cons (psx_set 9 sc_law.nd (pxg_call fits_body h_law_draw (hr.mono (j := 1) (by decide)) (cb_plain (pax_cons (px_var 1) (pax_cons px_int pax_nil)))))
    (pssx_cons (psx_if (ptx_cmp (ox_eq rfl hr.units) (pxg_call fits_body h_law_draw (hr.mono (j := 1) (by decide)) (cb_plain (pax_cons (px_var 1) (pax_cons px_int pax_nil)))) px_int) (pssx_one (psx_set 9 sc_law.nd (pxg_call fits_body h_law_draw (hr.mono (j := 1) (by decide)) (cb_plain (pax_cons (px_var 1) (pax_cons px_int pax_nil)))))) pssx_nil)
    (pssx_cons (psx_setLc 10 (own := [((PySem.Str.ofString "_law_n"), 14)]) rfl sc_law.nd (pix_rng1 rfl m_range (pxg_call fits_body h_law_draw (hr.mono (j := 1) (by decide)) (cb_plain (pax_cons (px_var 1) (pax_cons px_int pax_nil))))) (ok := (show BlkOk [(PySem.Str.ofString "_law_script"), (PySem.Str.ofString "_law_source_here"), (PySem.Str.ofString "_law_names_here"), (PySem.Str.ofString "_law_one"), (PySem.Str.ofString "_law_two"), (PySem.Str.ofString "_law_given"), (PySem.Str.ofString "_law_first"), (PySem.Str.ofString "_law_group"), (PySem.Str.ofString "_law_second"), (PySem.Str.ofString "_law_times"), (PySem.Str.ofString "_law_few"), (PySem.Str.ofString "_law_joined"), (PySem.Str.ofString "_law_flat"), (PySem.Str.ofString "_law_same"), (PySem.Str.ofString "_law_n"), (PySem.Str.ofString "_law_name")] (defScope st_law) _ [((PySem.Str.ofString "_law_n"), 14)] from ⟨rfl, by decide +kernel, by decide +kernel, by decide +kernel, by decide +kernel⟩)) (by decide) (fun _ _ _ _ _ => (pgx_name 14 sc_law.nd)) (fun _ _ _ _ _ => ptsx_nil) (fun _ _ _ _ _ => (px_ix rfl (px_var 2) (pxg_call (fits_blk rfl) h_law_draw (hr.mono (j := 1) (by decide)) (cb_plain (pax_cons (px_var 1) (pax_cons (px_callB (cx_len rfl) m_len (pax_cons (px_var 2) pax_nil)) pax_nil)))))))
    (pssx_cons (psx_set 11 sc_law.nd (px_lst pax_nil))
    (pssx_cons (psx_for own_body rfl (pix_seq fits_body (px_op (ox_add rfl) (px_var 3) (px_var 4))) (pgx_name 7 sc_law.nd) (pssx_one (psx_set 11 sc_law.nd (px_op (ox_add rfl) (px_var 11) (px_var 7)))))
    (pssx_cons (psx_setLc 12 (own := [((PySem.Str.ofString "_law_group"), 7)]) rfl sc_law.nd (pix_seq fits_body (px_var 3)) (ok := (show BlkOk [(PySem.Str.ofString "_law_script"), (PySem.Str.ofString "_law_source_here"), (PySem.Str.ofString "_law_names_here"), (PySem.Str.ofString "_law_one"), (PySem.Str.ofString "_law_two"), (PySem.Str.ofString "_law_given"), (PySem.Str.ofString "_law_first"), (PySem.Str.ofString "_law_group"), (PySem.Str.ofString "_law_second"), (PySem.Str.ofString "_law_times"), (PySem.Str.ofString "_law_few"), (PySem.Str.ofString "_law_joined"), (PySem.Str.ofString "_law_flat"), (PySem.Str.ofString "_law_same"), (PySem.Str.ofString "_law_n"), (PySem.Str.ofString "_law_name")] (defScope st_law) _ [((PySem.Str.ofString "_law_group"), 7)] from ⟨rfl, by decide +kernel, by decide +kernel, by decide +kernel, by decide +kernel⟩)) (by decide) (fun _ _ _ _ _ => (pgx_name 7 sc_law.nd)) (fun _ _ _ _ _ => (ptsx_one (ptx_cmp (ox_gt) (px_callB (cx_len rfl) m_len (pax_cons (px_var 7) pax_nil)) px_int))) (fun _ _ _ _ _ => (px_callTy (cx_tuple rfl) m_tuple (pax_cons (px_var 7) pax_nil))))
    (pssx_cons (psx_set 13 sc_law.nd (px_cmp (oxg_eq rfl h_Plan_d_eqd_ nf_0 (hr.mono (j := 1) (by decide))) (px_var 6) (px_var 8)))
    (pssx_cons (psx_if (ptx_bool (pwx_or (ptx_not (ptx_val (px_isTy m_isinstance m_bool (px_var 13)))) (pwx_or1 (ptx_cmp (ox_ne rfl hr.units) (px_var 13) (px_cmp (ox_eq rfl hr.units) (px_var 12) (px_lc (own := [((PySem.Str.ofString "_law_group"), 7)]) rfl sc_law.nd (pix_seq fits_body (px_var 4)) (ok := (show BlkOk [(PySem.Str.ofString "_law_script"), (PySem.Str.ofString "_law_source_here"), (PySem.Str.ofString "_law_names_here"), (PySem.Str.ofString "_law_one"), (PySem.Str.ofString "_law_two"), (PySem.Str.ofString "_law_given"), (PySem.Str.ofString "_law_first"), (PySem.Str.ofString "_law_group"), (PySem.Str.ofString "_law_second"), (PySem.Str.ofString "_law_times"), (PySem.Str.ofString "_law_few"), (PySem.Str.ofString "_law_joined"), (PySem.Str.ofString "_law_flat"), (PySem.Str.ofString "_law_same"), (PySem.Str.ofString "_law_n"), (PySem.Str.ofString "_law_name")] (defScope st_law) _ [((PySem.Str.ofString "_law_group"), 7)] from ⟨rfl, by decide +kernel, by decide +kernel, by decide +kernel, by decide +kernel⟩)) (by decide) (fun _ _ _ _ _ => (pgx_name 7 sc_law.nd)) (fun _ _ _ _ _ => (ptsx_one (ptx_cmp (ox_gt) (px_callB (cx_len rfl) m_len (pax_cons (px_var 7) pax_nil)) px_int))) (fun _ _ _ _ _ => (px_callTy (cx_tuple rfl) m_tuple (pax_cons (px_var 7) pax_nil))))))))) (pssx_one (psx_ret px_bl)) pssx_nil)
    (pssx_cons (psx_if (ptx_bool (pwx_or (ptx_not (ptx_val (pxg_call fits_body h_law_is (hr.mono (j := 4) (by decide)) (cb_plain (pax_cons (px_op (oxg_own2 rfl h_Plan_d_addd_ sf_0 (hr.mono (j := 3) (by decide))) (px_var 6) (px_var 8)) (pax_cons (px_op (ox_add rfl) (px_var 3) (px_var 4)) (pax_cons (px_var 2) pax_nil))))))) (pwx_or1 (ptx_not (ptx_val (pxg_call fits_body h_law_is (hr.mono (j := 4) (by decide)) (cb_plain (pax_cons (px_op (oxg_own2 rfl h_Plan_d_ord_ sf_0 (hr.mono (j := 3) (by decide))) (px_var 6) (px_var 8)) (pax_cons (px_lst (pax_cons (px_var 11) pax_nil)) (pax_cons (px_var 2) pax_nil)))))))))) (pssx_one (psx_ret px_bl)) pssx_nil)
    (pssx_cons (psx_if (ptx_bool (pwx_or (ptx_not (ptx_val (pxg_call fits_body h_law_is (hr.mono (j := 4) (by decide)) (cb_plain (pax_cons (px_op (oxg_ownI rfl h_Plan_d_muld_ oi_0 (hr.mono (j := 3) (by decide))) (px_var 6) (px_var 9)) (pax_cons (px_op (ox_mul) (px_var 3) (px_var 9)) (pax_cons (px_var 2) pax_nil))))))) (pwx_or1 (ptx_not (ptx_val (pxg_call fits_body h_law_is (hr.mono (j := 4) (by decide)) (cb_plain (pax_cons (px_op (oxg_ownRI rfl h_Plan_d_rmuld_ ri_0 (hr.mono (j := 3) (by decide))) (px_var 9) (px_var 6)) (pax_cons (px_op (ox_mul) (px_var 3) (px_var 9)) (pax_cons (px_var 2) pax_nil)))))))))) (pssx_one (psx_ret px_bl)) pssx_nil)
    (pssx_cons (psx_if (ptx_bool (pwx_or (ptx_not (ptx_val (pxg_call fits_body h_law_is (hr.mono (j := 4) (by decide)) (cb_plain (pax_cons (pxg_call fits_body h_law_apart (hr.mono (j := 4) (by decide)) (cb_plain (pax_cons (px_var 10) pax_nil))) (pax_cons (px_lc (own := [((PySem.Str.ofString "_law_name"), 15)]) rfl sc_law.nd (pix_seq fits_body (px_var 10)) (ok := (show BlkOk [(PySem.Str.ofString "_law_script"), (PySem.Str.ofString "_law_source_here"), (PySem.Str.ofString "_law_names_here"), (PySem.Str.ofString "_law_one"), (PySem.Str.ofString "_law_two"), (PySem.Str.ofString "_law_given"), (PySem.Str.ofString "_law_first"), (PySem.Str.ofString "_law_group"), (PySem.Str.ofString "_law_second"), (PySem.Str.ofString "_law_times"), (PySem.Str.ofString "_law_few"), (PySem.Str.ofString "_law_joined"), (PySem.Str.ofString "_law_flat"), (PySem.Str.ofString "_law_same"), (PySem.Str.ofString "_law_n"), (PySem.Str.ofString "_law_name")] (defScope st_law) _ [((PySem.Str.ofString "_law_name"), 15)] from ⟨rfl, by decide +kernel, by decide +kernel, by decide +kernel, by decide +kernel⟩)) (by decide) (fun _ _ _ _ _ => (pgx_name 15 sc_law.nd)) (fun _ _ _ _ _ => ptsx_nil) (fun _ _ _ _ _ => (px_lst (pax_cons (px_var 15) pax_nil)))) (pax_cons (px_var 2) pax_nil))))))) (pwx_or1 (ptx_not (ptx_val (pxg_call fits_body h_law_is (hr.mono (j := 4) (by decide)) (cb_plain (pax_cons (pxg_call fits_body h_law_together (hr.mono (j := 4) (by decide)) (cb_plain (pax_cons (px_var 10) pax_nil))) (pax_cons (px_lst (pax_cons (px_var 10) pax_nil)) (pax_cons (px_var 2) pax_nil)))))))))) (pssx_one (psx_ret px_bl)) pssx_nil)
    (pssx_cons (psx_if (ptx_bool (pwx_or (ptx_not (ptx_val (pxg_call fits_body h_law_is (hr.mono (j := 4) (by decide)) (cb_plain (pax_cons (px_var 6) (pax_cons (px_var 3) (pax_cons (px_var 2) pax_nil))))))) (pwx_or1 (ptx_not (ptx_val (pxg_call fits_body h_law_is (hr.mono (j := 4) (by decide)) (cb_plain (pax_cons (px_var 8) (pax_cons (px_var 4) (pax_cons (px_var 2) pax_nil)))))))))) (pssx_one (psx_ret px_bl)) pssx_nil)
    (pssx_cons (psx_if (ptx_cmp (ox_ne rfl hr.units) (px_cmp (oxg_eq rfl h_Plan_d_eqd_ nf_0 (hr.mono (j := 1) (by decide))) (px_var 6) (px_op (oxg_own2 rfl h_Plan_d_ord_ sf_0 (hr.mono (j := 3) (by decide))) (px_var 6) (pxg_make 0 fits_body h_Plan_d_initd_ (hr.mono (j := 2) (by decide)) cb_nil))) (px_cmp (ox_lt) (px_callB (cx_len rfl) m_len (pax_cons (px_var 12) pax_nil)) px_int)) (pssx_one (psx_ret px_bl)) pssx_nil)
    (pssx_one (psx_ret (px_and (px_cmp (ox_eq rfl hr.units) (px_cmp (oxg_eq rfl h_Plan_d_eqd_ nf_0 (hr.mono (j := 1) (by decide))) (px_var 6) (pxg_make 0 fits_body h_Plan_d_initd_ (hr.mono (j := 2) (by decide)) cb_nil)) (px_cmp (ox_eq rfl hr.units) (px_callB (cx_len rfl) m_len (pax_cons (px_var 12) pax_nil)) px_int)) (px_one (px_cmp (ox_is) (px_cmp (oxg_eq rfl h_Plan_d_eqd_ nf_0 (hr.mono (j := 1) (by decide))) (px_var 6) (pxg_call fits_body h_law_plan (hr.mono (j := 4) (by decide)) (cb_plain (pax_cons (px_var 3) pax_nil)))) px_bl))))))))))))))))))))))))))))
end K10

set_option Elab.async false
set_option linter.all false
set_option maxRecDepth 100000
set_option maxHeartbeats 4000000
namespace K10
open PySem PySem.Spec PyProof.Rows L2 FW
theorem together_ok {st : DSto} {ds : List D} {g : List Str} (hd : ds = g.map D.str) (h4 : 4 ≤ st.length) (hl : g.length ≤ sizeLine) : ∃ r st', G_Plan_together ds st = .ok (.ref r) st' ∧ Pre st st' ∧ PlanAt st' r (ne [g]) := by
  subst hd
  obtain ⟨ν, e3, h3⟩ := made (st := st) h4 (ds := [tupD g]) (gs := [g]) (.cons (.inl rfl) .nil) (by show 1 ≤ _; decide)
  refine ⟨_, _, ?_, .add ν, h3⟩
  unfold G_Plan_together bodyStar
  rw [if_pos ⟨by simp, by simpa using hl⟩, bodyF_ap (n := 1) (by simp)]
  unfold tupD at e3
  simp [den_Plan_together, e3]
theorem apart_ok {st : DSto} {ds : List D} {g : List Str} (hd : ds = g.map D.str) (h4 : 4 ≤ st.length) (hl : g.length ≤ sizeLine) : ∃ r st', G_Plan_apart ds st = .ok (.ref r) st' ∧ Pre st st' ∧ PlanAt st' r (g.map fun x => [x]) := by
  subst hd
  have hc : ∀ ρ : DEnv, ρ.length = 3 → compL [] [2] (gdName 2) (stepE dYes (dTup (dCons (dVar 2) dNil))) ρ (g.map D.str) [] st = some ((g.map fun x => [x]).map tupD, st) := fun ρ hr => by
    rw [compL_map (fun x => .tup [x]) _ rfl (fun x hx acc ha => ⟨_, rfl, ?_⟩) (by simpa using hl)]
    · simp [tupD]
    · have h1 : 1 ≤ sizeLine := by decide
      simp [hr, ha, mkTup, h1]
  have hn : ne (g.map fun x => [x]) = g.map fun x => [x] := ne_ne fun y hy => by
    obtain ⟨x, _, rfl⟩ := List.mem_map.mp hy
    simp
  obtain ⟨ν, e3, h3⟩ := made (st := st ++ [.lst ((g.map fun x => [x]).map tupD)]) (by simp; omega) (grps_tup (g.map fun x => [x])) (by simpa using hl)
  rw [hn] at h3
  have hi : itemsD (.ref st.length) (st ++ [.lst ((g.map fun x => [x]).map tupD)]) = some ((g.map fun x => [x]).map tupD) := items_ref (by simp)
  refine ⟨_, _, ?_, ⟨_, by rw [List.append_assoc]⟩, h3⟩
  unfold G_Plan_apart bodyStar
  rw [if_pos ⟨by simp, by simpa using hl⟩, bodyF_ap (n := 1) (by simp)]
  simp [-List.map_map, den_Plan_apart, hc, hi, e3]
/-- a list of names of the store -/
theorem litem {st : DSto} {n : Nat} {xs : List D} {i : Nat} {d : D} (h : st[n]? = some (.lst xs)) (e : xs[i]? = some d) : ixO (.ref n) (.int (i : Int)) st = some (d, st) := by
  unfold ixO
  dsimp only
  rw [items_ref h, Option.bind_some, FW.atI_nat, e]; rfl
theorem litem0 {st : DSto} {n : Nat} {xs : List D} {d : D} (h : st[n]? = some (.lst (d :: xs))) : ixO (.ref n) (.int 0) st = some (d, st) := litem (i := 0) h rfl
theorem litem1 {st : DSto} {n : Nat} {xs : List D} {d e : D} (h : st[n]? = some (.lst (d :: e :: xs))) : ixO (.ref n) (.int 1) st = some (e, st) := litem (i := 1) h rfl
theorem litem2 {st : DSto} {n : Nat} {xs : List D} {d e f : D} (h : st[n]? = some (.lst (d :: e :: f :: xs))) : ixO (.ref n) (.int 2) st = some (f, st) := litem (i := 2) h rfl
theorem litem3 {st : DSto} {n : Nat} {xs : List D} {d e f g : D} (h : st[n]? = some (.lst (d :: e :: f :: g :: xs))) : ixO (.ref n) (.int 3) st = some (g, st) := litem (i := 3) h rfl
theorem llen {st : DSto} {n : Nat} {xs : List D} (h : st[n]? = some (.lst xs)) : lenO [.ref n] st = some (.int xs.length, st) := by simp [lenO, h]
theorem lapart_ok {st : DSto} {n : Nat} {g : List Str} (h4 : 4 ≤ st.length) (h : st[n]? = some (.lst (g.map D.str))) (hl : g.length ≤ 3) : ∃ r st', G_law_apart [.ref n] st = .ok (.ref r) st' ∧ Pre st st' ∧ PlanAt st' r (g.map fun x => [x]) := by
  obtain ⟨r, st', e, p, q⟩ := apart_ok (st := st) (ds := g.map D.str) (g := g) rfl h4 (by have := szl; omega)
  refine ⟨r, st', ?_, p, q⟩
  unfold G_law_apart
  rw [bodyF_ap (n := 1) rfl]
  match g, hl with
  | [], _ => simp at e; simp [den_law_apart, llen h, e]
  | [a], _ => simp at e; simp [den_law_apart, llen h, litem0 h, e]
  | [a, b], _ => simp at e; simp [den_law_apart, llen h, litem0 h, litem1 h, e]
  | [a, b, c], _ => simp at e; simp [den_law_apart, llen h, litem0 h, litem1 h, litem2 h, e]
theorem ltogether_ok {st : DSto} {n : Nat} {g : List Str} (h4 : 4 ≤ st.length) (h : st[n]? = some (.lst (g.map D.str))) (hl : g.length ≤ 3) : ∃ r st', G_law_together [.ref n] st = .ok (.ref r) st' ∧ Pre st st' ∧ PlanAt st' r (ne [g]) := by
  obtain ⟨r, st', e, p, q⟩ := together_ok (st := st) (ds := g.map D.str) (g := g) rfl h4 (by have := szl; omega)
  refine ⟨r, st', ?_, p, q⟩
  unfold G_law_together
  rw [bodyF_ap (n := 1) rfl]
  match g, hl with
  | [], _ => simp at e; simp [den_law_together, llen h, e]
  | [a], _ => simp at e; simp [den_law_together, llen h, litem0 h, e]
  | [a, b], _ => simp at e; simp [den_law_together, llen h, litem0 h, litem1 h, e]
  | [a, b, c], _ => simp at e; simp [den_law_together, llen h, litem0 h, litem1 h, litem2 h, e]
/-- law's groups: a new list of new lists of names -/
structure GsAt (st : DSto) (lo n : Nat) (gs : List (List Str)) : Prop where
  at_ : ∃ rs : List Nat, st[n]? = some (.lst (rs.map D.ref)) ∧ Paired (fun r g => lo ≤ r ∧ r < st.length ∧ st[r]? = some (.lst (g.map D.str))) rs gs
  lo : lo ≤ n
theorem paired_mono {α β : Type} {F F' : α → β → Prop} (h : ∀ a b, F a b → F' a b) : ∀ {l : List α} {m : List β}, Paired F l m → Paired F' l m
  | _, _, .nil => .nil
  | _, _, .cons a t => .cons (h _ _ a) (paired_mono h t)
theorem draws_ok {names : List Str} {m : Nat} (hn : names ≠ []) (hz : names.length ≤ 100) {k : Nat} (hk : k ≤ 100) (st : DSto) (hs : Src st) (hm : 4 ≤ m) (hL : st[m]? = some (.lst (names.map D.str))) (ρ : DEnv) (vs : List Nat) (i nm sr : Nat) (hsr : (wipeE ρ vs)[sr]? = some (some (.ref 3))) (hnm : (wipeE ρ vs)[nm]? = some (some (.ref m))) (h0 : i ≠ sr) (hi : i ≠ nm) :
    ∃ (g : List Str) (st' : DSto), compL [] vs (gdName i) (stepE dYes (dOp ixO (dVar nm) (dCall G_law_draw (dCons (dVar sr) (dCons (dB' lenO (dCons (dVar nm) dNil)) dNil))))) ρ ((List.range k).map fun k : Nat => D.int (k : Int)) [] st = some (g.map D.str, st') ∧ g.length = k ∧ (∀ x ∈ g, x ∈ names) ∧ Src st' ∧ Keep st st' := by
  have hp : 0 < names.length := List.length_pos_iff.mpr hn
  have hstep : ∀ (p : List D) (x : D) (q acc : List D) (st1 : DSto), [] ++ ((List.range k).map fun k : Nat => D.int (k : Int)) = p ++ x :: q → (∃ g : List Str, acc = g.map D.str ∧ g.length = p.length ∧ (∀ x ∈ g, x ∈ names) ∧ Src st1 ∧ Keep st st1) →
      ∃ ρ1 st2 acc' st', gdName i x (wipeE ρ vs) st1 = some (ρ1, st2) ∧ stepE dYes (dOp ixO (dVar nm) (dCall G_law_draw (dCons (dVar sr) (dCons (dB' lenO (dCons (dVar nm) dNil)) dNil)))) ρ1 acc st2 = some (acc', st') ∧ ∃ g : List Str, acc' = g.map D.str ∧ g.length = (p ++ [x]).length ∧ (∀ x ∈ g, x ∈ names) ∧ Src st' ∧ Keep st st' := by
    rintro p x q acc st1 hpq ⟨g, rfl, g1, g2, g3, g4⟩
    have hL1 := g4.get hm hL
    obtain ⟨v, st2, e1, v0, v1, s2, k2⟩ := draw_ok (m := (names.length : Int)) g3 (by omega) (by omega)
    obtain ⟨v, rfl⟩ := Int.eq_ofNat_of_zero_le v0
    have hv : v < names.length := by omega
    have hL2 := k2.get hm hL1
    have hx : ixO (.ref m) (.int (v : Int)) st2 = some (.str names[v], st2) := litem hL2 (by rw [List.getElem?_map, List.getElem?_eq_getElem hv]; rfl)
    have hr0 : ((wipeE ρ vs).set i (some x))[sr]? = some (some (.ref 3)) := by rw [List.getElem?_set_ne h0]; exact hsr
    have hr1 : ((wipeE ρ vs).set i (some x))[nm]? = some (some (.ref m)) := by rw [List.getElem?_set_ne hi]; exact hnm
    have hl : (g.map D.str).length < sizeLine := by
      have h2 := congrArg List.length hpq
      simp at h2
      have := szl
      rw [List.length_map]
      omega
    have hll : lenO [.ref m] st1 = some (.int (names.length : Int), st1) := by rw [llen hL1, List.length_map]
    refine ⟨_, st1, (g ++ [names[v]]).map D.str, st2, rfl, ?_, g ++ [names[v]], rfl, by simp [g1], ?_, s2, g4.trans k2⟩
    · simp only [stepE_ap, dYes_ap, dOp_ap, dVar_ap, hr0, hr1, DRes.bind_ok, dCall_ap, dCons_ap, dB'_ap, dNil_ap, hll, ofO_some, e1, hx]
      rw [if_pos hl]
      simp
    · intro y hy
      rcases List.mem_append.mp hy with hy | hy
      · exact g2 y hy
      · rw [List.mem_singleton.mp hy]; exact List.getElem_mem hv
  obtain ⟨acc', st', e, g, rfl, g1, g2, g3, g4⟩ := compL_inv (c := []) (vs := vs) (g := gdName i) (step := stepE dYes (dOp ixO (dVar nm) (dCall G_law_draw (dCons (dVar sr) (dCons (dB' lenO (dCons (dVar nm) dNil)) dNil))))) (ρ := ρ)
    (fun pre acc st1 => ∃ g : List Str, acc = g.map D.str ∧ g.length = pre.length ∧ (∀ x ∈ g, x ∈ names) ∧ Src st1 ∧ Keep st st1) ((List.range k).map fun k : Nat => D.int (k : Int)) [] [] st ⟨[], rfl, rfl, by simp, hs, .refl⟩ (fun _ _ _ _ => rfl) hstep
  exact ⟨g, st', e, by rw [g1]; simp, g2, g3, g4⟩
theorem keep_len {a b : DSto} (k : Keep a b) (h : 4 ≤ b.length) : a.length ≤ b.length := by
  obtain ⟨ν, e⟩ := k
  have h1 := congrArg List.length e
  simp at h1
  omega
theorem keep_set {a b : DSto} {L : Nat} {o : DObj} (k : Keep a b) (h4 : 4 ≤ a.length) (hL : a.length ≤ L) : Keep a (b.set L o) := by
  obtain ⟨ν, k⟩ := k
  refine ⟨ν.set (L - 4 - (a.length - 4)) o, ?_⟩
  rw [List.drop_set, if_neg (by omega), k, List.set_append, if_neg (by rw [List.length_drop]; omega), List.length_drop]
theorem src_set {b : DSto} {L : Nat} {o : DObj} (h : Src b) (hL : 4 ≤ L) : Src (b.set L o) := by
  obtain ⟨z, c, bs, k, n, s, tl, rfl, e⟩ := h
  obtain ⟨j, rfl⟩ := Nat.exists_eq_add_of_le hL
  rw [show 4 + j = j + 1 + 1 + 1 + 1 by omega]
  exact ⟨z, c, bs, k, n, s, tl.set j o, rfl, e⟩
abbrev GP (st : DSto) (lo : Nat) (rs : List Nat) (gs : List (List Str)) : Prop := Paired (fun r g => lo ≤ r ∧ r < st.length ∧ st[r]? = some (.lst (g.map D.str))) rs gs
theorem groups_ok {names : List Str} {m : Nat} (hn : names ≠ []) (hz : names.length ≤ 100) {st : DSto} (hs : Src st) (hm : 4 ≤ m) (hL : st[m]? = some (.lst (names.map D.str))) :
    ∃ (n : Nat) (gs : List (List Str)) (st' : DSto), G_law_groups [.ref 3, .ref m] st = .ok (.ref n) st' ∧ GsAt st' st.length n gs ∧ n < st'.length ∧ gs.length ≤ 6 ∧ (∀ g ∈ gs, g.length ≤ 4 ∧ ∀ x ∈ g, x ∈ names) ∧ Src st' ∧ Keep st st' := by
  have h4 := hs.len
  obtain ⟨hs1, hk1⟩ := hs.keepApp [.lst []]
  obtain ⟨v, s2, e2, v0, v1, h2, k2⟩ := draw_ok (m := 7) hs1 (by decide) (by decide)
  obtain ⟨v, rfl⟩ := Int.eq_ofNat_of_zero_le v0
  let I : List D → DEnv → DSto → Prop := fun pre ρ st' => (∃ x, ρ = [some (.ref 3), some (.ref m), some (.ref st.length), x, none]) ∧ Src st' ∧ Keep st st' ∧ st.length < st'.length ∧
    ∃ (rs : List Nat) (gs : List (List Str)), st'[st.length]? = some (.lst (rs.map D.ref)) ∧ GP st' (st.length + 1) rs gs ∧ gs.length = pre.length ∧ ∀ g ∈ gs, g.length ≤ 4 ∧ ∀ x ∈ g, x ∈ names
  have hstep : ∀ (p : List D) (x : D) (q : List D) (ρ : DEnv) (st1 : DSto), [] ++ ((List.range v).map fun k : Nat => D.int (k : Int)) = p ++ x :: q → I p ρ st1 →
      ∃ ρ1 st2 ρ2 st3, gdName 3 x ρ st1 = some (ρ1, st2) ∧ ((dExpr (dApp (dVar 2) (dLc (dIRng1 (dCall G_law_draw (dCons (dVar 0) (dCons (dC (.int 5)) dNil)))) [4] (gdName 4) (stepE dYes (dOp ixO (dVar 1) (dCall G_law_draw (dCons (dVar 0) (dCons (dB' lenO (dCons (dVar 1) dNil)) dNil)))))))) ρ1 st2 = .nx ρ2 st3 ∨ (dExpr (dApp (dVar 2) (dLc (dIRng1 (dCall G_law_draw (dCons (dVar 0) (dCons (dC (.int 5)) dNil)))) [4] (gdName 4) (stepE dYes (dOp ixO (dVar 1) (dCall G_law_draw (dCons (dVar 0) (dCons (dB' lenO (dCons (dVar 1) dNil)) dNil)))))))) ρ1 st2 = .ct ρ2 st3) ∧ I (p ++ [x]) ρ2 st3 := by
    rintro p x q ρ st1 hpq ⟨⟨y, rfl⟩, i1, i2, i3, rs, gs, i4, i5, i6, i7⟩
    obtain ⟨u, t1, f1, u0, u1, g1, l1⟩ := draw_ok (m := 5) i1 (by decide) (by decide)
    obtain ⟨u, rfl⟩ := Int.eq_ofNat_of_zero_le u0
    have hLm := l1.get hm (i2.get hm hL)
    obtain ⟨g, t2, f2, a1, a2, g2, l2⟩ := draws_ok hn hz (k := u) (by omega) t1 g1 hm hLm [some (.ref 3), some (.ref m), some (.ref st.length), some x, none] [4] 4 1 0 rfl rfl (by decide) (by decide)
    have hl12 := l1.trans l2
    have hc : (t2 ++ [DObj.lst (g.map D.str)])[st.length]? = some (.lst (rs.map D.ref)) := by
      have := hl12.get h4 i4
      rw [List.getElem?_append_left (List.getElem?_eq_some_iff.mp this).1]; exact this
    have hrs : rs.length < sizeLine := by
      have h2 := congrArg List.length hpq
      have h3 := paired_len i5
      have := szl
      simp at h2
      omega
    have hlt : st1.length ≤ t2.length := keep_len hl12 g2.len
    refine ⟨_, st1, _, (t2 ++ [DObj.lst (g.map D.str)]).set st.length (DObj.lst ((rs ++ [t2.length]).map D.ref)), rfl, .inl ?_, ⟨some x, rfl⟩, src_set (g2.app _) h4, keep_set ((i2.trans hl12).trans (.app _ g2.len)) h4 (Nat.le_refl _), by simp; omega, rs ++ [t2.length], gs ++ [g], ?_, ?_, by simp [i6], ?_⟩
    · simp [f1, f2, rngO_0 (n := u) (by omega), i4, hc, hrs]
    · rw [List.getElem?_set_self (by simp; omega)]
    · refine Paired.snoc (paired_mono (fun r g ⟨b1, b2, b3⟩ => ⟨b1, by simp; omega, by
        have := hl12.get (by omega) b3
        rw [List.getElem?_set_ne (by omega), List.getElem?_append_left (by omega)]; exact this⟩) i5) ⟨by omega, by simp, by
        rw [List.getElem?_set_ne (by omega)]; simp⟩
    · intro g' hg'
      rcases List.mem_append.mp hg' with hg' | hg'
      · exact i7 g' hg'
      · rw [List.mem_singleton.mp hg']; exact ⟨by omega, a2⟩
  have hlt : st.length < s2.length := by
    have h1 := keep_len k2 h2.len
    simp at h1
    omega
  obtain ⟨ρ', st', e, ⟨y, rfl⟩, i1, i2, i3, rs, gs, i4, i5, i6, i7⟩ := forL_inv (c := []) (g := gdName 3) (b := dExpr (dApp (dVar 2) (dLc (dIRng1 (dCall G_law_draw (dCons (dVar 0) (dCons (dC (.int 5)) dNil)))) [4] (gdName 4) (stepE dYes (dOp ixO (dVar 1) (dCall G_law_draw (dCons (dVar 0) (dCons (dB' lenO (dCons (dVar 1) dNil)) dNil)))))))) I
    ((List.range v).map fun k : Nat => D.int (k : Int)) [] [some (.ref 3), some (.ref m), some (.ref st.length), none, none] s2
    ⟨⟨none, rfl⟩, h2, hk1.trans k2, hlt, [], [], k2.get h4 (by simp), .nil, rfl, by simp⟩ (fun _ _ _ _ => rfl) hstep
  refine ⟨st.length, gs, st', ?_, ⟨⟨rs, i4, paired_mono (fun r g ⟨b1, b2, b3⟩ => ⟨by omega, b2, b3⟩) i5⟩, Nat.le_refl _⟩, i3, by rw [i6]; simp; omega, i7, i1, i2⟩
  have h0 : 0 ≤ sizeLine := Nat.zero_le _
  unfold G_law_groups
  rw [bodyF_ap (n := 2) rfl]
  simp [den_law_groups, mkLst, e2, rngO_0 (n := v) (by omega), e]
theorem own_add {st : DSto} {p q : Nat} {a b : List (List Str)} (h4 : 4 ≤ st.length) (ha : PlanAt st p a) (hb : PlanAt st q b) (hl : a.length + b.length ≤ sizeLine) :
    ∃ st', own2 0 G_Plan_d_addd_ (.ref p) (.ref q) st = some (.ref st.length, st') ∧ Pre st st' ∧ PlanAt st' st.length (ne (a ++ b)) ∧ Lo st st' st.length := by
  obtain ⟨st', e, h1, h2, h3⟩ := add_ok h4 ha hb hl
  refine ⟨st', ?_, h1, h2, h3⟩
  unfold own2
  rw [if_pos ⟨ha.isIns, hb.isIns⟩, e]
  rfl
theorem cut_from {xs : List D} {k : Nat} (h : k ≤ xs.length) : FW.cutD xs (some (k : Int)) none = xs.drop k := by
  unfold FW.cutD
  rw [HT.sIx_none, HT.sIx_nat, Nat.min_eq_left h]
  rw [List.take_of_length_le]
  simp
theorem ne_single (gs : List (List Str)) (g : List Str) : ne (ne gs ++ ne [g]) = ne (gs ++ [g]) := by
  rw [ne_app, ne_ne (ne_of_ne gs), ne_ne (ne_of_ne [g]), ← ne_app]
theorem ne_two (a b : List (List Str)) : ne (ne a ++ ne b) = ne (a ++ b) := by
  rw [ne_app, ne_ne (ne_of_ne a), ne_ne (ne_of_ne b), ← ne_app]
theorem ne_le (a : List (List Str)) : (ne a).length ≤ a.length := List.length_filter_le _ _
theorem grps_snoc {st : DSto} {ds : List D} {gs : List (List Str)} {p q : List D} {d : D} : ∀ {gs : List (List Str)}, Grps st (p ++ d :: q) gs → ∃ g1 g g2, gs = g1 ++ g :: g2 ∧ Grps st p g1 ∧ GrpD st d g ∧ Grps st q g2 := by
  induction p with
  | nil =>
    intro gs h
    cases h with
    | cons a t => exact ⟨[], _, _, rfl, .nil, a, t⟩
  | cons x p ih =>
    intro gs h
    cases h with
    | cons a t =>
      obtain ⟨g1, g, g2, rfl, h1, h2, h3⟩ := ih t
      exact ⟨_ :: g1, g, g2, rfl, .cons a h1, h2, h3⟩
theorem _root_.FW.Grps.app' {st : DSto} {p : List D} {gp : List (List Str)} {d : D} {g : List Str} (h : Grps st p gp) (k : GrpD st d g) : Grps st (p ++ [d]) (gp ++ [g]) := Paired.snoc h k
theorem lplan_ok {st : DSto} {n : Nat} {ds : List D} {gs : List (List Str)} (h4 : 4 ≤ st.length) (hn : 4 ≤ n) (h : st[n]? = some (.lst ds)) (hg : Grps st ds gs) (hl : gs.length ≤ 1000) :
    ∃ r st', G_law_plan [.ref n] st = .ok (.ref r) st' ∧ Pre st st' ∧ PlanAt st' r (ne gs) ∧ Lo st st' r := by
  have sz := szl
  unfold G_law_plan
  rw [bodyF_ap (n := 1) rfl]
  match ds, gs, hg with
  | [], _, .nil =>
    obtain ⟨ν, e, k, kl⟩ := made' (st := st) h4 (ds := []) (gs := []) .nil (by show 0 ≤ _; omega)
    exact ⟨_, _, by simp [den_law_plan, llen h, e], .add ν, k, kl⟩
  | [a], [ga], .cons ha .nil =>
    obtain ⟨ν, e, k, kl⟩ := made' (st := st) h4 (ds := [a]) (gs := [ga]) (.cons ha .nil) (by show 1 ≤ _; omega)
    exact ⟨_, _, by simp [den_law_plan, llen h, litem0 h, e], .add ν, k, kl⟩
  | [a, b], [ga, gb], .cons ha (.cons hb .nil) =>
    obtain ⟨ν, e, k, kl⟩ := made' (st := st) h4 (ds := [a, tupD gb]) (gs := [ga, gb]) (.cons ha (.cons (.inl rfl) .nil)) (by show 2 ≤ _; omega)
    exact ⟨_, _, by simp [den_law_plan, llen h, litem0 h, litem1 h, hb.tuple, e], .add ν, k, kl⟩
  | [a, b, c], [ga, gb, gc], .cons ha (.cons hb (.cons hc .nil)) =>
    obtain ⟨ν, e, k, kl⟩ := made' (st := st) h4 (ds := [a, b, c]) (gs := [ga, gb, gc]) (.cons ha (.cons hb (.cons hc .nil))) (by show 3 ≤ _; omega)
    exact ⟨_, _, by simp [den_law_plan, llen h, litem0 h, litem1 h, litem2 h, e], .add ν, k, kl⟩
  | a :: b :: c :: d :: ds, ga :: gb :: gc :: gd :: gs, .cons ha (.cons hb (.cons hc (.cons hd hg))) =>
    obtain ⟨ν, e, k, kl⟩ := made' (st := st) h4 (ds := [d]) (gs := [gd]) (.cons hd .nil) (by show 1 ≤ _; omega)
    have hlen := Grps.len hg
    simp only [List.length_cons] at hl
    have k1 : Keep st (st ++ ν) := .app ν h4
    have h1 := k1.get hn h
    have hlong : ¬ ((ds.length : Int) + 1 + 1 + 1 + 1 = 0) := by omega
    have hlong1 : ¬ ((ds.length : Int) + 1 + 1 + 1 + 1 = 1) := by omega
    have hlong2 : ¬ ((ds.length : Int) + 1 + 1 + 1 + 1 = 2) := by omega
    have hlong3 : ¬ ((ds.length : Int) + 1 + 1 + 1 + 1 = 3) := by omega
    have hcut : FW.cutD (a :: b :: c :: d :: ds) (some 4) none = ds := cut_from (k := 4) (by simp)
    obtain ⟨s2, hs2⟩ : ∃ s2, s2 = st ++ ν ++ [DObj.lst ds] := ⟨_, rfl⟩
    have k2 : Keep st s2 := by rw [hs2]; exact k1.trans (.app _ (by simp; omega))
    have hat : s2[(st ++ ν).length]? = some (.lst ds) := by rw [hs2]; simp
    have hs2l : 4 ≤ s2.length := by rw [hs2]; simp; omega
    let I : List D → DEnv → DSto → Prop := fun pre ρ st' => (∃ x r, ρ = [some (.ref n), some (.ref r), x] ∧ PlanAt st' r (ne (gd :: gs.take pre.length))) ∧ Pre s2 st'
    have hstep : ∀ (p : List D) (x : D) (q : List D) (ρ : DEnv) (st1 : DSto), [] ++ ds = p ++ x :: q → I p ρ st1 → ∃ ρ1 st2 ρ2 st3, gdName 2 x ρ st1 = some (ρ1, st2) ∧
        ((dAsg 1 (dOp (own2 0 G_Plan_d_addd_) (dVar 1) (dMake 0 G_Plan_d_initd_ (dCons (dVar 2) dNil)))) ρ1 st2 = .nx ρ2 st3 ∨ (dAsg 1 (dOp (own2 0 G_Plan_d_addd_) (dVar 1) (dMake 0 G_Plan_d_initd_ (dCons (dVar 2) dNil)))) ρ1 st2 = .ct ρ2 st3) ∧ I (p ++ [x]) ρ2 st3 := by
      rintro p x q ρ st1 hpq ⟨⟨y, r, rfl, g2⟩, g3⟩
      rw [List.nil_append] at hpq
      have hg' := hg
      rw [hpq] at hg'
      obtain ⟨gp, g, gq, hgs, q1, q2, q3⟩ := grps_snoc (ds := []) (gs := []) hg'
      have l1 : 4 ≤ st1.length := Nat.le_trans hs2l g3.len
      have kk := k2.trans (g3.keep hs2l)
      have hgp := Grps.len q1
      have t1 : gs.take p.length = gp := by rw [hgs, hgp]; simp
      have t2 : gs.take (p ++ [x]).length = gp ++ [g] := by rw [hgs, List.length_append, hgp]; simp [List.take_append, List.take_of_length_le (show gp.length ≤ gp.length + 1 by omega)]
      rw [t1] at g2
      obtain ⟨μ, f1, f2⟩ := made (st := st1) l1 (ds := [x]) (gs := [g]) (.cons (q2.keep kk) .nil) (by show 1 ≤ _; omega)
      have l2 : 4 ≤ (st1 ++ μ).length := by simp; omega
      have hb1 := congrArg List.length hpq
      simp at hb1
      have z1 := ne_le (gd :: gp)
      have z2 := ne_le [g]
      simp only [List.length_cons, List.length_nil] at z1 z2
      obtain ⟨s3, f3, f4, f5, _⟩ := own_add l2 (g2.keep (Keep.app μ l1)) f2 (by omega)
      refine ⟨_, st1, [some (.ref n), some (.ref (st1 ++ μ).length), some x], s3, rfl, .inl ?_, ⟨some x, _, rfl, ?_⟩, g3.trans ((Pre.add μ).trans f4)⟩
      · simp [f1, f3]
      · rw [t2]
        rw [ne_single] at f5
        exact f5
    obtain ⟨ρ', s3, f1, ⟨y, r, rfl, f2⟩, f3⟩ := forL_inv (c := [((st ++ ν).length, .lst ds)]) (g := gdName 2) (b := dAsg 1 (dOp (own2 0 G_Plan_d_addd_) (dVar 1) (dMake 0 G_Plan_d_initd_ (dCons (dVar 2) dNil)))) I ds [] [some (.ref n), some (.ref st.length), none] s2
      ⟨⟨none, _, rfl, by
        have kp : Keep (st ++ ν) s2 := by rw [hs2]; exact .app _ (by simp; omega)
        simpa using k.keep kp⟩, .refl⟩ (fun pre ρ st1 i => by
        have := (i.2.keep hs2l).get (by simp; omega) hat
        simp only [chkB_cons, chkB_nil, Bool.and_true]
        exact decide_eq_true this) hstep
    rw [List.nil_append] at f2
    have l3 : 4 ≤ s3.length := Nat.le_trans hs2l f3.len
    have k3 := k2.trans (f3.keep hs2l)
    have h3 := k3.get hn h
    obtain ⟨μ, e5, p5⟩ := made (st := s3) l3 (ds := [tupD ga, b, c]) (gs := [ga, gb, gc]) (.cons (.inl rfl) (.cons (hb.keep k3) (.cons (hc.keep k3) .nil))) (by show 3 ≤ _; omega)
    have z1 := ne_le [ga, gb, gc]
    have z2 := ne_le (gd :: gs.take ds.length)
    simp only [List.length_cons, List.length_nil, List.length_take] at z1 z2
    obtain ⟨s4, e6, p6, p7, p8⟩ := own_add (st := s3 ++ μ) (by simp; omega) p5 (f2.keep (.app μ l3)) (by omega)
    rw [ne_two, hlen, List.take_length] at p7
    have hpre : Pre st (s3 ++ μ) := (Pre.add ν).trans ((show Pre (st ++ ν) s2 from ⟨_, hs2⟩).trans (f3.trans (Pre.add μ)))
    refine ⟨(s3 ++ μ).length, s4, ?_, ?_, p7, p8.le hpre.len⟩
    · have hsl : slO (.ref n) (some 4) none (st ++ ν) = some (.ref (st ++ ν).length, s2) := by
        unfold slO
        simp only [h1, hcut]
        rw [hs2]
      have htu := (ha.keep k3).tuple
      rw [List.length_append] at hat f1
      simp [den_law_plan, llen h, hlong, hlong1, hlong2, hlong3, litem3 h, e, hsl, hat, f1, litem0 h3, litem1 h3, litem2 h3, htu, e5, e6]
    · rw [show Pre st s4 ↔ ∃ ν, s4 = st ++ ν from Iff.rfl]
      exact (Pre.add ν).trans ((show Pre (st ++ ν) s2 from ⟨_, hs2⟩).trans (f3.trans ((Pre.add μ).trans p6)))
theorem addO_lst {st : DSto} {n m : Nat} {xs ys : List D} (h : st[n]? = some (.lst xs)) (k : st[m]? = some (.lst ys)) (hl : xs.length + ys.length ≤ sizeLine) : addO (.ref n) (.ref m) st = some (.ref st.length, st ++ [.lst (xs ++ ys)]) := by
  unfold addO
  simp only [h, k]
  rw [if_pos hl]
theorem listO_of {st : DSto} {x : D} {xs : List D} (h : itemsD x st = some xs) : listO [x] st = some (.ref st.length, st ++ [.lst xs]) := by
  unfold listO
  dsimp only
  rw [h]; rfl
theorem reify_strs {st : DSto} {q : Nat} {g : List Str} (h : st[q]? = some (.lst (g.map D.str))) : reify st (.ref q) = some (.list (g.map .str)) := by
  show lookL st _ q = _
  unfold lookL
  rw [h]
  dsimp only
  rw [pyOfs_str]; rfl
theorem shaped_str {x : Str} (h : PyData.strOk x = true) : SeqAt.shaped (.str x) = true := by
  unfold SeqAt.shaped
  rw [show (PyData.str x).canLay0 = PyData.strOk x from rfl, h]
  rfl
theorem inO_lst {st : DSto} {w : Nat} {g : List Str} {x : Str} (h : st[w]? = some (.lst (g.map D.str))) (hx : Nm x) (hg : ∀ y ∈ g, Nm y) : inO (.str x) (.ref w) st = some (.bl (g.contains x), st) := by
  have e : ∀ g : List Str, (g.map PyData.str).any (fun z => PyData.eqv z (.str x)) = g.contains x := by
    intro g
    induction g with
    | nil => rfl
    | cons y g ih =>
      rw [List.map_cons, List.any_cons, ih, List.contains_cons]
      congr 1
      show (y == x) = (x == y)
      rw [Bool.eq_iff_iff, beq_iff_eq, beq_iff_eq]
      exact eq_comm
  unfold inO memO
  simp only [reify_str, reify_strs h]
  rw [if_pos ⟨shaped_str hx.1, shaped_lst hg⟩, e]
  rfl
theorem strOk_join {sep : Str} (hs : PyData.strOk sep = true) {ts : List Str} (ht : ∀ t ∈ ts, PyData.strOk t = true) : PyData.strOk (Txt.join sep ts) = true := by
  have h : ∀ (ts : List Str) (a : Array Nat), a.all (· < 0x110000) = true → (∀ t ∈ ts, PyData.strOk t = true) → (ts.foldl (fun acc p => acc ++ sep.cps ++ p.cps) a).all (· < 0x110000) = true := by
    intro ts
    induction ts with
    | nil => intro a ha _; exact ha
    | cons t ts ih =>
      intro a ha ht
      refine ih _ ?_ fun y hy => ht y (List.mem_cons_of_mem _ hy)
      have h1 : t.cps.all (· < 0x110000) = true := ht t (List.mem_cons_self ..)
      have h2 : sep.cps.all (· < 0x110000) = true := hs
      rw [Array.all_append, Array.all_append, ha, h1, h2]; rfl
  cases ts with
  | nil =>
    show PyData.strOk ⟨Str.empty.cps⟩ = true
    decide +kernel
  | cons t ts => exact h ts t.cps (ht t (List.mem_cons_self ..)) fun y hy => ht y (List.mem_cons_of_mem _ hy)
theorem strOk_strP {gs : List (List Str)} (h : Nms gs) : PyData.strOk (strP gs) = true := by
  refine strOk_join (by decide +kernel) fun t ht => ?_
  obtain ⟨g, hg, rfl⟩ := List.mem_map.mp ht
  exact strOk_join (by decide +kernel) fun x hx => (h g hg x hx).1
theorem eqO_str (st : DSto) {x y : Str} (hx : PyData.strOk x = true) (hy : PyData.strOk y = true) : eqO (.str x) (.str y) st = some (.bl (x == y), st) := by
  unfold eqO
  simp only [reify_str]
  rw [if_pos ⟨shaped_str hx, shaped_str hy⟩]
  rfl
theorem unk_nm : Nm (PySem.Str.ofString "unknownname") := ⟨by decide +kernel, by decide +kernel⟩
theorem ne_flat : ∀ gs : List (List Str), (ne gs).flatten = gs.flatten
  | [] => rfl
  | [] :: gs => by
    show (ne gs).flatten = [] ++ gs.flatten
    rw [ne_flat gs]; rfl
  | (x :: g) :: gs => by
    show (x :: g) ++ (ne gs).flatten = (x :: g) ++ gs.flatten
    rw [ne_flat gs]
theorem small_ne {gs : List (List Str)} (h : Small gs) : Small (ne gs) := by
  refine ⟨fun g hg => h.nm g (List.mem_filter.mp hg).1, ?_, Nat.le_trans (ne_le gs) h.ln⟩
  rw [ne_flat]; exact h.fl
/-- what the walks of the due groups are -/
theorem walk_loop {c : Chk} {st : DSto} {L : Nat} {a0 a1 a2 a3 a6 : Option D} {n2 : Nat} (hc : ∀ st', Pre st st' → chkB c st' = true) {gs : List (List Str)} (h4 : 4 ≤ st.length) (hf : gs.flatten.length ≤ 100000) (hw : st[n2]? = some (.lst [])) :
    ∃ x w st', forL c (gdName 5) (dAsg 4 (dOp addO (dVar 4) (dB' listO (dCons (dVar 5) dNil)))) (gs.map tupD) [a0, a1, a2, a3, some (.ref n2), none, a6] st = .nx [a0, a1, a2, a3, some (.ref w), x, a6] st' ∧ Pre st st' ∧ st'[w]? = some (.lst (gs.flatten.map D.str)) := by
  let I : List D → DEnv → DSto → Prop := fun pre ρ st' => ∃ x w, ρ = [a0, a1, a2, a3, some (.ref w), x, a6] ∧ Pre st st' ∧ st'[w]? = some (.lst ((gs.take pre.length).flatten.map D.str))
  have hstep : ∀ (p : List D) (x : D) (q : List D) (ρ : DEnv) (st1 : DSto), [] ++ gs.map tupD = p ++ x :: q → I p ρ st1 → ∃ ρ1 st2 ρ2 st3, gdName 5 x ρ st1 = some (ρ1, st2) ∧
        ((dAsg 4 (dOp addO (dVar 4) (dB' listO (dCons (dVar 5) dNil)))) ρ1 st2 = .nx ρ2 st3 ∨ (dAsg 4 (dOp addO (dVar 4) (dB' listO (dCons (dVar 5) dNil)))) ρ1 st2 = .ct ρ2 st3) ∧ I (p ++ [x]) ρ2 st3 := by
    rintro p x q ρ st1 hpq ⟨y, w, rfl, i1, i2⟩
    rw [List.nil_append] at hpq
    have hx : (gs.map tupD)[p.length]? = some x := by rw [hpq]; simp
    rw [List.getElem?_map] at hx
    obtain ⟨g, hg, rfl⟩ := Option.map_eq_some_iff.mp hx
    have ht : gs.take (p ++ [tupD g]).length = gs.take p.length ++ [g] := by
      rw [List.length_append, List.length_singleton, List.take_add_one, hg]; rfl
    have hfl : (gs.take p.length).flatten.length + g.length ≤ 100000 := by
      have h1 : ((gs.take p.length ++ [g]).flatten).length ≤ gs.flatten.length := by
        rw [← ht]
        have h3 := congrArg (fun l : List (List Str) => l.flatten.length) (List.take_append_drop (p ++ [tupD g]).length gs)
        simp only [List.flatten_append, List.length_append] at h3
        simp only [List.length_append]
        omega
      rw [List.flatten_append, List.length_append] at h1
      have h2 : ([g] : List (List Str)).flatten.length = g.length := by simp
      omega
    have e1 := listO_of (st := st1) (x := tupD g) (xs := g.map D.str) rfl
    have e0 : (st1 ++ [DObj.lst (g.map D.str)])[w]? = some (.lst ((gs.take p.length).flatten.map D.str)) := by
      rw [List.getElem?_append_left (List.getElem?_eq_some_iff.mp i2).1]; exact i2
    have e2 := addO_lst (st := st1 ++ [DObj.lst (g.map D.str)]) (n := w) (m := st1.length) (ys := g.map D.str) e0 (by simp) (by have := szl; rw [List.length_map, List.length_map]; omega)
    refine ⟨_, st1, [a0, a1, a2, a3, some (.ref (st1 ++ [DObj.lst (g.map D.str)]).length), some (tupD g), a6], st1 ++ [DObj.lst (g.map D.str)] ++ [DObj.lst ((gs.take p.length).flatten.map D.str ++ g.map D.str)], rfl, .inl ?_, some (tupD g), _, rfl, i1.trans ((Pre.add _).trans (Pre.add _)), ?_⟩
    · simp only [dAsg_ap, dOp_ap, dB'_ap, dCons_ap, dNil_ap, dVar_ap, List.set_cons_succ, List.set_cons_zero, List.getElem?_cons_succ, List.getElem?_cons_zero, DRes.bind_ok, e1, ofO_some, e2, toS_ok]
    · rw [ht, List.flatten_append, List.map_append]
      simp [-List.map_flatten]
  obtain ⟨ρ', st', e, x, w, rfl, i1, i2⟩ := forL_inv (c := c) (g := gdName 5) (b := dAsg 4 (dOp addO (dVar 4) (dB' listO (dCons (dVar 5) dNil)))) I (gs.map tupD) [] [a0, a1, a2, a3, some (.ref n2), none, a6] st ⟨none, n2, rfl, .refl, by simpa using hw⟩ (fun pre ρ st1 ⟨_, _, _, i, _⟩ => hc st1 i) hstep
  refine ⟨x, w, st', e, i1, ?_⟩
  rw [i2]
  simp
theorem pre_get {a b : DSto} {n : Nat} {o : DObj} (h : Pre a b) (e : a[n]? = some o) : b[n]? = some o := by
  obtain ⟨ν, rfl⟩ := h
  rw [List.getElem?_append_left (List.getElem?_eq_some_iff.mp e).1]; exact e
/-- each name stands in the plan exactly if it stands in the walks -/
theorem name_loop {c : Chk} {st : DSto} {p w : Nat} {a1 a2 a3 a5 a6 : Option D} {a : List (List Str)} (h4 : 4 ≤ st.length) (hc : ∀ st', Pre st st' → chkB c st' = true) (hp : PlanAt st p a) (ha : Nms a) (hf : a.flatten.length ≤ 100000) (hw : st[w]? = some (.lst (a.flatten.map D.str))) (names : List Str) (hn : ∀ x ∈ names, Nm x) :
    ∃ x st', forL c (gdName 6) (dIfS (dB (dOp neO (dOp (ownIn 0 G_Plan_d_containsd_) (dVar 6) (dVar 0)) (dOp inO (dVar 6) (dVar 4)))) (dRet (dC (.bl false))) dSkip) (names.map D.str) [some (.ref p), a1, a2, a3, some (.ref w), a5, a6] st = .nx [some (.ref p), a1, a2, a3, some (.ref w), a5, x] st' ∧ Pre st st' := by
  let I : List D → DEnv → DSto → Prop := fun pre ρ st' => ∃ x, ρ = [some (.ref p), a1, a2, a3, some (.ref w), a5, x] ∧ Pre st st'
  have hstep : ∀ (p' : List D) (x : D) (q : List D) (ρ : DEnv) (st1 : DSto), [] ++ names.map D.str = p' ++ x :: q → I p' ρ st1 → ∃ ρ1 st2 ρ2 st3, gdName 6 x ρ st1 = some (ρ1, st2) ∧
        ((dIfS (dB (dOp neO (dOp (ownIn 0 G_Plan_d_containsd_) (dVar 6) (dVar 0)) (dOp inO (dVar 6) (dVar 4)))) (dRet (dC (.bl false))) dSkip) ρ1 st2 = .nx ρ2 st3 ∨ (dIfS (dB (dOp neO (dOp (ownIn 0 G_Plan_d_containsd_) (dVar 6) (dVar 0)) (dOp inO (dVar 6) (dVar 4)))) (dRet (dC (.bl false))) dSkip) ρ1 st2 = .ct ρ2 st3) ∧ I (p' ++ [x]) ρ2 st3 := by
    rintro p' x q ρ st1 hpq ⟨y, rfl, i1⟩
    rw [List.nil_append] at hpq
    obtain ⟨z, hz, rfl⟩ := List.mem_map.mp (show x ∈ names.map D.str by rw [hpq]; simp)
    have k1 := i1.keep h4
    have l1 : 4 ≤ st1.length := Nat.le_trans h4 i1.len
    have hp1 := hp.keep k1
    obtain ⟨ν, e1⟩ := contains_ok (x := z) hp1 (by have := szl; omega)
    have e2 := inO_lst (st := st1 ++ ν) (x := z) (pre_get (i1.trans (.add ν)) hw) (hn z hz) (fun y hy => by
      obtain ⟨g, hg, hy⟩ := List.mem_flatten.mp hy
      exact ha g hg y hy)
    have e3 : ownIn 0 G_Plan_d_containsd_ (.str z) (.ref p) st1 = some (.bl (a.flatten.contains z), st1 ++ ν) := by
      unfold ownIn
      rw [if_pos hp1.isIns, e1]
      rfl
    refine ⟨_, st1, [some (.ref p), a1, a2, a3, some (.ref w), a5, some (.str z)], st1 ++ ν, rfl, .inl ?_, some (.str z), rfl, i1.trans (.add ν)⟩
    simp only [dIfS_ap, dB_ap, dOp_ap, dVar_ap, List.set_cons_succ, List.set_cons_zero, List.getElem?_cons_succ, List.getElem?_cons_zero, DRes.bind_ok, e3, ofO_some, e2, neO_bl, toS_ok, beq_self_eq_true, Bool.not_true, Bool.false_eq_true, if_false, dSkip_ap]
  obtain ⟨ρ', st', e, x, rfl, i1⟩ := forL_inv (c := c) (g := gdName 6) (b := dIfS (dB (dOp neO (dOp (ownIn 0 G_Plan_d_containsd_) (dVar 6) (dVar 0)) (dOp inO (dVar 6) (dVar 4)))) (dRet (dC (.bl false))) dSkip) I (names.map D.str) [] [some (.ref p), a1, a2, a3, some (.ref w), a5, a6] st ⟨a6, rfl, .refl⟩ (fun pre ρ st1 ⟨_, _, i⟩ => hc st1 i) hstep
  exact ⟨x, st', e, i1⟩
theorem id_comp {c : Chk} {ρ : DEnv} {st : DSto} {i : Nat} (hi : i < ρ.length) (hc : chkB c st = true) (xs : List D) (hl : xs.length ≤ sizeLine) : compL c [i] (gdName i) (stepE dYes (dVar i)) ρ xs [] st = some (xs, st) := by
  rw [compL_map id xs hc (fun x hx acc ha => ⟨_, rfl, by simp [hi, ha]⟩) hl]
  simp
theorem is_ok {st : DSto} {p n m : Nat} {ds : List D} {gs : List (List Str)} {names : List Str} (h4 : 4 ≤ st.length) (hp : PlanAt st p (ne gs)) (hn : 4 ≤ n) (h : st[n]? = some (.lst ds)) (hg : Grps st ds gs) (hm : 4 ≤ m) (hN : st[m]? = some (.lst (names.map D.str))) (hnm : ∀ x ∈ names, Nm x) (hnl : names.length ≤ 100) (hs : Small gs) :
    ∃ st', G_law_is [.ref p, .ref n, .ref m] st = .ok (.bl true) st' ∧ Pre st st' := by
  have sz := szl
  have hs' := small_ne hs
  have hlen := Grps.len hg
  have hll := hs.ln
  have hff := hs'.fl
  have hzl := hs'.ln
  have h1 := clean_ok (c := [(n, .lst ds)]) (i := 5) (ρ := [some (.ref p), some (.ref n), some (.ref m), none, none, none, none]) (st := st) (by simp) (by simp [h]) [] hg (by simp; omega)
  rw [List.nil_append] at h1
  unfold clD at h1
  obtain ⟨s1, hs1⟩ : ∃ s1, s1 = st ++ [DObj.lst ((ne gs).map tupD)] := ⟨_, rfl⟩
  have p1 : Pre st s1 := ⟨_, hs1⟩
  have d1 : s1[st.length]? = some (.lst ((ne gs).map tupD)) := by rw [hs1]; simp
  obtain ⟨s2, hs2⟩ : ∃ s2, s2 = s1 ++ [DObj.lst []] := ⟨_, rfl⟩
  have p2 : Pre s1 s2 := ⟨_, hs2⟩
  have d2 := pre_get p2 d1
  have w2 : s2[s1.length]? = some (.lst []) := by rw [hs2]; simp
  have l1 := p1.len
  have l2 := p2.len
  obtain ⟨x3, w, s3, f3, p3, w3⟩ := walk_loop (c := [(st.length, .lst ((ne gs).map tupD))]) (st := s2) (L := 0) (a0 := some (.ref p)) (a1 := some (.ref n)) (a2 := some (.ref m)) (a3 := some (.ref st.length)) (a6 := none) (n2 := s1.length)
    (fun st' q => by simp [pre_get q d2]) (gs := ne gs) (by omega) hff w2
  have l3 := p3.len
  have q3 := (p1.trans p2).trans p3
  have d3 := pre_get p3 d2
  have P3 := hp.keep (q3.keep h4)
  obtain ⟨qq, e4, g4⟩ := P3.fld
  have h5 := id_comp (c := [(qq, .lst ((ne gs).map tupD))]) (ρ := [some (.ref p), some (.ref n), some (.ref m), some (.ref st.length), some (.ref w), x3, none]) (st := s3) (i := 5) (by simp) (by simp [g4]) ((ne gs).map tupD) (by rw [List.length_map]; omega)
  obtain ⟨s4, hs4⟩ : ∃ s4, s4 = s3 ++ [DObj.lst ((ne gs).map tupD)] := ⟨_, rfl⟩
  have p4 : Pre s3 s4 := ⟨_, hs4⟩
  have l4 := p4.len
  have d4 := pre_get p4 d3
  have n4 : s4[s3.length]? = some (.lst ((ne gs).map tupD)) := by rw [hs4]; simp
  have c4 := (eqO_tups n4 d4 hs'.nm hs'.nm).2
  have P4 := hp.keep ((q3.trans p4).keep h4)
  have e6 : ownLen 0 G_Plan_d_lend_ [.ref p] s4 = some (.int (ne gs).length, s4) := by
    unfold ownLen
    simp only [P4.isIns, if_true, plen_ok P4, ofR]
    rw [if_pos ⟨by omega, by omega⟩]
  have e7 : lenO [.ref st.length] s4 = some (.int (ne gs).length, s4) := by rw [llen d4, List.length_map]
  obtain ⟨ν, e8⟩ := walks_ok P4 (by omega)
  obtain ⟨s5, hs5⟩ : ∃ s5, s5 = s4 ++ ν := ⟨_, rfl⟩
  rw [← hs5] at e8
  have p5 : Pre s4 s5 := ⟨_, hs5⟩
  have l5 := p5.len
  have w5 := pre_get (p4.trans p5) w3
  have e9 : tupleO [.ref w] s5 = some (tupD (ne gs).flatten, s5) := by
    unfold tupleO
    dsimp only
    rw [items_ref w5]; rfl
  have nmf : ∀ x ∈ (ne gs).flatten, Nm x := fun y hy => by
    obtain ⟨g, hg, hy⟩ := List.mem_flatten.mp hy
    exact hs'.nm g hg y hy
  have c5 := (eqO_tup (st := s5) nmf nmf).2
  obtain ⟨s6, hs6⟩ : ∃ s6, s6 = s5 ++ [DObj.lst ([PySem.Str.ofString "unknownname"].map D.str)] := ⟨_, rfl⟩
  have p6 : Pre s5 s6 := ⟨_, hs6⟩
  have l6 := p6.len
  have q6 := (q3.trans p4).trans (p5.trans p6)
  have N6 := pre_get q6 hN
  have u6 : s6[s5.length]? = some (.lst ([PySem.Str.ofString "unknownname"].map D.str)) := by rw [hs6]; simp
  have e10 := addO_lst N6 u6 (by simp; omega)
  rw [← List.map_append] at e10
  obtain ⟨s7, hs7⟩ : ∃ s7, s7 = s6 ++ [DObj.lst ((names ++ [PySem.Str.ofString "unknownname"]).map D.str)] := ⟨_, rfl⟩
  rw [← hs7] at e10
  have p7 : Pre s6 s7 := ⟨_, hs7⟩
  have l7 := p7.len
  have q7 := q6.trans p7
  have N7 : s7[s6.length]? = some (.lst ((names ++ [PySem.Str.ofString "unknownname"]).map D.str)) := by rw [hs7]; simp
  have w7 := pre_get (p6.trans p7) w5
  have P7 := hp.keep (q7.keep h4)
  obtain ⟨x6, s8, f8, p8⟩ := name_loop (c := [(s6.length, .lst ((names ++ [PySem.Str.ofString "unknownname"]).map D.str))]) (st := s7) (p := p) (w := w) (a1 := some (.ref n)) (a2 := some (.ref m)) (a3 := some (.ref st.length)) (a5 := x3) (a6 := none) (a := ne gs) (by omega)
    (fun st' q => by simp only [chkB_cons, chkB_nil, Bool.and_true]; exact decide_eq_true (pre_get q N7)) P7 hs'.nm hff w7 (names ++ [PySem.Str.ofString "unknownname"]) (fun x hx => by
      rcases List.mem_append.mp hx with hx | hx
      · exact hnm x hx
      · rw [List.mem_singleton.mp hx]; exact unk_nm)
  have l8 := p8.len
  have q8 := q7.trans p8
  have P8 := hp.keep (q8.keep h4)
  obtain ⟨μ, e11⟩ := str_ok P8 hs'
  obtain ⟨s9, hs9⟩ : ∃ s9, s9 = s8 ++ μ := ⟨_, rfl⟩
  rw [← hs9] at e11
  have p9 : Pre s8 s9 := ⟨_, hs9⟩
  have l9 := p9.len
  have e12 : ownStr 0 G_Plan_d_strd_ [.ref p] s8 = some (.str (strP (ne gs)), s9) := by
    unfold ownStr
    simp only [P8.isIns, if_true, e11, ofR]
  have d9 := pre_get (p4.trans (p5.trans (p6.trans (p7.trans (p8.trans p9))))) d3
  have hb := bars_ok (c := [(st.length, .lst ((ne gs).map tupD))]) (i := 5) (ρ := [some (.ref p), some (.ref n), some (.ref m), some (.ref st.length), some (.ref w), x3, x6]) (st := s9) (by simp) (by simp [d9]) (ne gs) [] hs'.each (by simp; omega)
  rw [List.nil_append] at hb
  unfold barD at hb
  have hj : joinO (.str (PySem.Str.ofString " + ")) (.ref s9.length) (s9 ++ [.lst (((ne gs).map (Txt.join (PySem.Str.ofString "|"))).map D.str)]) = some (.str (strP (ne gs)), s9 ++ [.lst (((ne gs).map (Txt.join (PySem.Str.ofString "|"))).map D.str)]) := joinO_tup (items_ref (by simp)) hs'.outer
  have he := eqO_str (s9 ++ [.lst (((ne gs).map (Txt.join (PySem.Str.ofString "|"))).map D.str)]) (strOk_strP hs'.nm) (strOk_strP hs'.nm)
  refine ⟨_, ?_, q8.trans (p9.trans (.add [.lst (((ne gs).map (Txt.join (PySem.Str.ofString "|"))).map D.str)]))⟩
  have hl1 : ([PySem.Str.ofString "unknownname"].map D.str).length ≤ sizeLine := by simp; omega
  have hl0 : ([] : List D).length ≤ sizeLine := by simp
  have mk0 : mkLst [] s1 = .ok (.ref s1.length) s2 := by unfold mkLst; rw [if_pos hl0, hs2]
  have mk1 : mkLst [.str (PySem.Str.ofString "unknownname")] s5 = .ok (.ref s5.length) s6 := by
    unfold mkLst
    rw [if_pos (show ([D.str (PySem.Str.ofString "unknownname")]).length ≤ sizeLine from hl1), hs6]
    rfl
  unfold G_law_is
  rw [bodyF_ap (n := 3) rfl]
  simp only [den_law_is, dSeq_ap, dAsg_ap, dLc_ap, dISeq_ap, dVar_ap, List.map_cons, List.map_nil, List.length_cons, List.length_nil, List.cons_append, List.nil_append, Nat.reduceSub, Nat.reduceAdd, List.reduceReplicate, List.getElem?_cons_zero, List.getElem?_cons_succ, DRes.bind_ok, h, h1, toS_ok, andThen_nx, List.set_cons_zero, List.set_cons_succ, dLst_ap, dNil_ap, ← hs1, mk0, dFor_ap, d2, f3]
  simp only [dIfS_ap, dOr_ap, dB_ap, dOp_ap, dLc_ap, dIOwn_ap, dVar_ap, List.getElem?_cons_zero, List.getElem?_cons_succ, DRes.bind_ok, P3.isIns, if_true, e4, g4, h5, ← hs4, c4, ofO_some, decide_true, Bool.not_true, Bool.false_eq_true, if_false, dB'_ap, dCons_ap, dNil_ap, e6, e7, neO_int, beq_self_eq_true, dProp_ap, P4.isIns, e8, e9, c5, toS_ok, dSkip_ap, andThen_nx]
  simp only [dSeq_ap, dFor_ap, dISeq_ap, dOp_ap, dVar_ap, dLst_ap, dCons_ap, dNil_ap, dC_ap, List.getElem?_cons_zero, List.getElem?_cons_succ, DRes.bind_ok, mk1, e10, ofO_some, N7, toS_ok, f8, andThen_nx, dRet_ap, dB'_ap, e12, dJoin_ap, dLc_ap, d9, hb, hj, he, beq_self_eq_true]
/-- a copy of each group, a new list of lists -/
theorem copies_ok {c : Chk} {i : Nat} {ρ : DEnv} {st : DSto} (hi : i < ρ.length) (h4 : 4 ≤ st.length) (hc : ∀ st', Pre st st' → chkB c st' = true) {ds : List D} {gs : List (List Str)} (hg : Grps st ds gs) (hl : gs.length ≤ 1000) :
    ∃ (rs : List Nat) (st' : DSto), compL c [i] (gdName i) (stepE dYes (dB' listO (dCons (dVar i) dNil))) ρ ds [] st = some (rs.map D.ref, st') ∧ Pre st st' ∧ GP st' st.length rs gs := by
  have sz := szl
  have hlen := Grps.len hg
  let I : List D → List D → DSto → Prop := fun pre acc st' => ∃ rs : List Nat, acc = rs.map D.ref ∧ Pre st st' ∧ GP st' st.length rs (gs.take pre.length)
  have hstep : ∀ (p : List D) (x : D) (q acc : List D) (st1 : DSto), [] ++ ds = p ++ x :: q → I p acc st1 → ∃ ρ1 st2 acc' st', gdName i x (wipeE ρ [i]) st1 = some (ρ1, st2) ∧ stepE dYes (dB' listO (dCons (dVar i) dNil)) ρ1 acc st2 = some (acc', st') ∧ I (p ++ [x]) acc' st' := by
    rintro p x q acc st1 hpq ⟨rs, rfl, i1, i2⟩
    rw [List.nil_append] at hpq
    have hg' := hg
    rw [hpq] at hg'
    obtain ⟨gp, g, gq, hgs, q1, q2, q3⟩ := grps_snoc (ds := []) (gs := []) hg'
    have hgp := Grps.len q1
    have t1 : gs.take p.length = gp := by rw [hgs, hgp]; simp
    have t2 : gs.take (p ++ [x]).length = gp ++ [g] := by rw [hgs, List.length_append, hgp]; simp [List.take_append, List.take_of_length_le (show gp.length ≤ gp.length + 1 by omega)]
    rw [t1] at i2
    have e1 := listO_of (st := st1) (q2.keep (i1.keep h4)).items
    have hrs := paired_len i2
    have hb1 := congrArg List.length hpq
    simp at hb1
    have hl1 := i1.len
    refine ⟨_, st1, (rs ++ [st1.length]).map D.ref, st1 ++ [.lst (g.map D.str)], rfl, ?_, rs ++ [st1.length], rfl, i1.trans (.add _), ?_⟩
    · have hv : ((wipeE ρ [i]).set i (some x))[i]? = some (some x) := by simp [hi]
      simp only [stepE_ap, dYes_ap, dB'_ap, dCons_ap, dNil_ap, dVar_ap, hv, DRes.bind_ok, e1, ofO_some]
      rw [if_pos (by rw [List.length_map]; omega), List.map_append]
      rfl
    · rw [t2]
      exact Paired.snoc (paired_mono (fun r g ⟨b1, b2, b3⟩ => ⟨b1, by simp; omega, pre_get (.add _) b3⟩) i2) ⟨hl1, by simp, by simp⟩
  obtain ⟨acc, st', e, rs, rfl, i1, i2⟩ := compL_inv (c := c) (vs := [i]) (g := gdName i) (step := stepE dYes (dB' listO (dCons (dVar i) dNil))) (ρ := ρ) I ds [] [] st ⟨[], rfl, .refl, .nil⟩ (fun pre acc st1 ⟨_, _, q, _⟩ => hc st1 q) hstep
  refine ⟨rs, st', e, i1, ?_⟩
  rw [List.nil_append, hlen, List.take_length] at i2
  exact i2
theorem GP.grps {a b : DSto} {lo : Nat} (h4 : 4 ≤ lo) (f : ∀ r o, lo ≤ r → r < a.length → a[r]? = some o → b[r]? = some o) : ∀ {rs : List Nat} {gs : List (List Str)}, GP a lo rs gs → Grps b (rs.map D.ref) gs
  | _, _, .nil => .nil
  | _, _, .cons ⟨h1, h2, h3⟩ t => .cons (.inr ⟨_, rfl, by omega, f _ _ h1 h2 h3⟩) (GP.grps h4 f t)
/-- joined = joined + group, for each -/
theorem join_loop {c : Chk} {st : DSto} {pre0 post0 : List (Option D)} {n2 : Nat} {ds : List D} {gs : List (List Str)} {ρ0 : DEnv} {j i : Nat} (hj : j < ρ0.length) (hi : i < ρ0.length) (hij : i ≠ j) (hc : ∀ st', Pre st st' → chkB c st' = true) (h4 : 4 ≤ st.length) (hg : Grps st ds gs) (hr : ∀ d ∈ ds, ∃ r, d = .ref r) (hf : gs.flatten.length ≤ 100000) (hv0 : ρ0[j]? = some (some (.ref n2))) (h2 : 4 ≤ n2) (hw : st[n2]? = some (.lst [])) :
    ∃ x w st', forL c (gdName i) (dAsg j (dOp addO (dVar j) (dVar i))) ds ρ0 st = .nx ((ρ0.set j (some (.ref w))).set i x) st' ∧ Pre st st' ∧ st'[w]? = some (.lst (gs.flatten.map D.str)) ∧ 4 ≤ w := by
  have sz := szl
  have hlen := Grps.len hg
  let I : List D → DEnv → DSto → Prop := fun pre ρ st' => ∃ x w, ρ = (ρ0.set j (some (.ref w))).set i x ∧ Pre st st' ∧ st'[w]? = some (.lst ((gs.take pre.length).flatten.map D.str)) ∧ 4 ≤ w
  have hstep : ∀ (p : List D) (x : D) (q : List D) (ρ : DEnv) (st1 : DSto), [] ++ ds = p ++ x :: q → I p ρ st1 → ∃ ρ1 st2 ρ2 st3, gdName i x ρ st1 = some (ρ1, st2) ∧
        ((dAsg j (dOp addO (dVar j) (dVar i))) ρ1 st2 = .nx ρ2 st3 ∨ (dAsg j (dOp addO (dVar j) (dVar i))) ρ1 st2 = .ct ρ2 st3) ∧ I (p ++ [x]) ρ2 st3 := by
    rintro p x q ρ st1 hpq ⟨y, w, rfl, i1, i2, i3⟩
    rw [List.nil_append] at hpq
    have hg' := hg
    rw [hpq] at hg'
    obtain ⟨gp, g, gq, hgs, q1, q2, q3⟩ := grps_snoc (ds := []) (gs := []) hg'
    have hgp := Grps.len q1
    have t1 : gs.take p.length = gp := by rw [hgs, hgp]; simp
    have t2 : gs.take (p ++ [x]).length = gp ++ [g] := by rw [hgs, List.length_append, hgp]; simp [List.take_append, List.take_of_length_le (show gp.length ≤ gp.length + 1 by omega)]
    rw [t1] at i2
    obtain ⟨r, rfl⟩ := hr x (by rw [hpq]; simp)
    have hx : st1[r]? = some (.lst (g.map D.str)) := by
      rcases q2 with h | ⟨n, h, _, e⟩
      · cases h
      · cases h; exact pre_get i1 e
    have hfl : gp.flatten.length + g.length ≤ 100000 := by
      rw [hgs] at hf
      simp only [List.flatten_append, List.flatten_cons, List.length_append] at hf
      omega
    have e2 := addO_lst i2 hx (by rw [List.length_map, List.length_map]; omega)
    refine ⟨_, st1, (ρ0.set j (some (.ref st1.length))).set i (some (.ref r)), st1 ++ [.lst (gp.flatten.map D.str ++ g.map D.str)], rfl, .inl ?_, some (.ref r), _, rfl, i1.trans (.add _), ?_, Nat.le_trans h4 i1.len⟩
    · have v1 : (((ρ0.set j (some (.ref w))).set i y).set i (some (.ref r)))[j]? = some (some (.ref w)) := by
        rw [List.getElem?_set_ne hij, List.getElem?_set_ne hij, List.getElem?_set_self hj]
      have v2 : (((ρ0.set j (some (.ref w))).set i y).set i (some (.ref r)))[i]? = some (some (.ref r)) := List.getElem?_set_self (by simp [hi])
      simp only [dAsg_ap, dOp_ap, dVar_ap, v1, v2, DRes.bind_ok, e2, ofO_some, toS_ok]
      congr 1
      rw [List.set_set, List.set_comm _ _ hij, List.set_set]
    · rw [t2, List.flatten_append, List.map_append]
      simp [-List.map_flatten]
  have h0 : ρ0 = (ρ0.set j (some (.ref n2))).set i ((ρ0[i]?).getD none) := by
    apply List.ext_getElem?
    intro k
    by_cases hk : i = k
    · subst hk; rw [List.getElem?_set_self (by simp [hi])]; simp [hi]
    · rw [List.getElem?_set_ne hk]
      by_cases hk2 : j = k
      · subst hk2; rw [List.getElem?_set_self hj]; exact hv0
      · rw [List.getElem?_set_ne hk2]
  obtain ⟨ρ', st', e, x, w, rfl, i1, i2, i3⟩ := forL_inv (c := c) (g := gdName i) (b := dAsg j (dOp addO (dVar j) (dVar i))) I ds [] ρ0 st ⟨_, n2, h0, .refl, by simpa using hw, h2⟩ (fun pre ρ st1 ⟨_, _, _, q, _⟩ => hc st1 q) hstep
  refine ⟨x, w, st', e, i1, ?_⟩
  rw [List.nil_append, hlen, List.take_length] at i2
  exact ⟨i2, i3⟩
theorem singles_ok {c : Chk} {i : Nat} {ρ : DEnv} {st : DSto} (hi : i < ρ.length) (hc : ∀ st', Pre st st' → chkB c st' = true) (g : List Str) (hl : g.length ≤ 1000) :
    ∃ (rs : List Nat) (st' : DSto), compL c [i] (gdName i) (stepE dYes (dLst (dCons (dVar i) dNil))) ρ (g.map D.str) [] st = some (rs.map D.ref, st') ∧ Pre st st' ∧ GP st' st.length rs (g.map fun x => [x]) := by
  have sz := szl
  let I : List D → List D → DSto → Prop := fun pre acc st' => ∃ rs : List Nat, acc = rs.map D.ref ∧ Pre st st' ∧ GP st' st.length rs ((g.take pre.length).map fun x => [x])
  have hstep : ∀ (p : List D) (x : D) (q acc : List D) (st1 : DSto), [] ++ g.map D.str = p ++ x :: q → I p acc st1 → ∃ ρ1 st2 acc' st', gdName i x (wipeE ρ [i]) st1 = some (ρ1, st2) ∧ stepE dYes (dLst (dCons (dVar i) dNil)) ρ1 acc st2 = some (acc', st') ∧ I (p ++ [x]) acc' st' := by
    rintro p x q acc st1 hpq ⟨rs, rfl, i1, i2⟩
    rw [List.nil_append] at hpq
    have hx : (g.map D.str)[p.length]? = some x := by rw [hpq]; simp
    rw [List.getElem?_map] at hx
    obtain ⟨z, hz, rfl⟩ := Option.map_eq_some_iff.mp hx
    have t2 : g.take (p ++ [D.str z]).length = g.take p.length ++ [z] := by
      rw [List.length_append, List.length_singleton, List.take_add_one, hz]; rfl
    have hrs := paired_len i2
    have hb1 := congrArg List.length hpq
    simp at hb1 hrs
    have hl1 := i1.len
    have h1 : 1 ≤ sizeLine := by decide
    refine ⟨_, st1, (rs ++ [st1.length]).map D.ref, st1 ++ [.lst ([z].map D.str)], rfl, ?_, rs ++ [st1.length], rfl, i1.trans (.add _), ?_⟩
    · have hv : ((wipeE ρ [i]).set i (some (.str z)))[i]? = some (some (.str z)) := by simp [hi]
      have mk : mkLst [.str z] st1 = .ok (.ref st1.length) (st1 ++ [.lst ([z].map D.str)]) := by
        unfold mkLst
        rw [if_pos (show ([D.str z]).length ≤ sizeLine from h1)]
        rfl
      simp only [stepE_ap, dYes_ap, dLst_ap, dCons_ap, dNil_ap, dVar_ap, hv, DRes.bind_ok, mk]
      rw [if_pos (by rw [List.length_map]; omega), List.map_append]
      rfl
    · rw [t2, List.map_append]
      exact Paired.snoc (paired_mono (fun r g ⟨b1, b2, b3⟩ => ⟨b1, by simp; omega, pre_get (.add _) b3⟩) i2) ⟨hl1, by simp, by simp⟩
  obtain ⟨acc, st', e, rs, rfl, i1, i2⟩ := compL_inv (c := c) (vs := [i]) (g := gdName i) (step := stepE dYes (dLst (dCons (dVar i) dNil))) (ρ := ρ) I (g.map D.str) [] [] st ⟨[], rfl, .refl, .nil⟩ (fun pre acc st1 ⟨_, _, q, _⟩ => hc st1 q) hstep
  refine ⟨rs, st', e, i1, ?_⟩
  rw [List.nil_append, List.length_map, List.take_length] at i2
  exact i2
def pyL (gs : List (List Str)) : List PyData := gs.map fun g => .list (g.map PyData.str)
theorem pyOfs_refs {st : DSto} (lk : Nat → Option PyData) : ∀ {rs : List Nat} {gs : List (List Str)}, Paired (fun r g => st[r]? = some (.lst (g.map D.str))) rs gs → pyOfs (lookL st lk) (rs.map D.ref) = some (pyL gs)
  | _, _, .nil => rfl
  | r :: rs, g :: gs, .cons h t => by
    show (lookL st lk r).bind _ = _
    rw [pyOfs_refs lk t]
    unfold lookL
    rw [h]
    dsimp only
    rw [pyOfs_str]; rfl
theorem canLay_lsts : ∀ {gs : List (List Str)}, Nms gs → PyData.canLayAll0 (pyL gs) = true
  | [], _ => rfl
  | g :: gs, h => by
    show (PyData.canLayAll0 (g.map PyData.str) && _) = true
    rw [canLay_strs (h g (List.mem_cons_self ..))]
    exact canLay_lsts fun y hy => h y (List.mem_cons_of_mem _ hy)
theorem depth_lsts : ∀ gs : List (List Str), PyData.depthAll (pyL gs) ≤ 1
  | [] => by decide
  | g :: gs => by
    show max (PyData.depthAll (g.map PyData.str) + 1) (PyData.depthAll (pyL gs)) ≤ 1
    rw [depth_strs g]
    have := depth_lsts gs
    omega
theorem shaped_lsts {gs : List (List Str)} (h : Nms gs) : SeqAt.shaped (.list (pyL gs)) = true := by
  unfold SeqAt.shaped
  rw [show (PyData.list (pyL gs)).canLay0 = PyData.canLayAll0 (pyL gs) from rfl, canLay_lsts h]
  have := depth_lsts gs
  exact decide_eq_true (by show PyData.depthAll (pyL gs) + 1 ≤ 64; omega)
theorem eqv_lsts : ∀ a : List (List Str), PyData.eqvAll (pyL a) (pyL a) = true
  | [] => rfl
  | x :: a => by
    show (PyData.eqvAll (x.map PyData.str) (x.map PyData.str) && PyData.eqvAll (pyL a) (pyL a)) = _
    rw [eqv_lsts a, eqv_strs]; simp
theorem lookL_at {st : DSto} {lk : Nat → Option PyData} {n : Nat} {xs : List D} (h : st[n]? = some (.lst xs)) : lookL st lk n = (pyOfs lk xs).map .list := by
  unfold lookL
  rw [h]
theorem neO_lsts {st : DSto} {p q : Nat} {rs rs' : List Nat} {a : List (List Str)} (ha : st[p]? = some (.lst (rs.map D.ref))) (hb : st[q]? = some (.lst (rs'.map D.ref))) (h1 : Paired (fun r g => st[r]? = some (.lst (g.map D.str))) rs a) (h2 : Paired (fun r g => st[r]? = some (.lst (g.map D.str))) rs' a) (na : Nms a) :
    neO (.ref p) (.ref q) st = some (.bl false, st) := by
  have e : PyData.eqv (.list (pyL a)) (.list (pyL a)) = true := eqv_lsts a
  have f1 : reify st (.ref p) = some (.list (pyL a)) := by
    show lookL st (lookL st (lookL st fun _ => none)) p = _
    rw [lookL_at ha, pyOfs_refs _ h1]; rfl
  have f2 : reify st (.ref q) = some (.list (pyL a)) := by
    show lookL st (lookL st (lookL st fun _ => none)) q = _
    rw [lookL_at hb, pyOfs_refs _ h2]; rfl
  unfold neO
  simp only [f1, f2]
  rw [if_pos ⟨shaped_lsts na, shaped_lsts na⟩, e]
  rfl
/-- a name more in each group -/
theorem app_loop {st : DSto} {n5 lo hi : Nat} {rs : List Nat} {gs : List (List Str)} {ρ : DEnv} {u : Str} (hρ : 7 < ρ.length) (hs : Src st) (h4 : 4 ≤ lo) (hg : Paired (fun r g => lo ≤ r ∧ r < hi ∧ st[r]? = some (.lst (g.map D.str))) rs gs) (hn : hi ≤ n5) (h5 : st[n5]? = some (.lst (rs.map D.ref))) (hgl : ∀ g ∈ gs, g.length ≤ 1000) (hl : gs.length ≤ 1000) :
    ∃ x st', forL [(n5, .lst (rs.map D.ref))] (gdName 7) (dExpr (dApp (dVar 7) (dC (.str u)))) (rs.map D.ref) ρ st = .nx (ρ.set 7 x) st' ∧ Src st' ∧ st'.length = st.length ∧ ∀ j, (j < lo ∨ hi ≤ j) → st'[j]? = st[j]? := by
  have sz := szl
  have hlen := paired_len hg
  let I : List D → DEnv → DSto → Prop := fun pre ρ' st' => (∃ x, ρ' = ρ.set 7 x) ∧ Src st' ∧ st'.length = st.length ∧ (∀ j, (j < lo ∨ hi ≤ j) → st'[j]? = st[j]?) ∧ ∀ r ∈ rs, ∃ xs, st'[r]? = some (.lst xs) ∧ xs.length ≤ 1000 + pre.length
  have hrs : ∀ {rs : List Nat} {gs : List (List Str)}, Paired (fun r g => lo ≤ r ∧ r < hi ∧ st[r]? = some (.lst (g.map D.str))) rs gs → ∀ r ∈ rs, lo ≤ r ∧ r < hi ∧ ∃ g ∈ gs, st[r]? = some (.lst (g.map D.str)) := by
    intro rs gs h
    induction h with
    | nil => intro r hr; cases hr
    | cons a t ih =>
      intro r hr
      rcases List.mem_cons.mp hr with rfl | hr
      · exact ⟨a.1, a.2.1, _, List.mem_cons_self .., a.2.2⟩
      · obtain ⟨x, y, g, hg, z⟩ := ih r hr
        exact ⟨x, y, g, List.mem_cons_of_mem _ hg, z⟩
  have hstep : ∀ (p : List D) (x : D) (q : List D) (ρ' : DEnv) (st1 : DSto), [] ++ rs.map D.ref = p ++ x :: q → I p ρ' st1 → ∃ ρ1 st2 ρ2 st3, gdName 7 x ρ' st1 = some (ρ1, st2) ∧
        ((dExpr (dApp (dVar 7) (dC (.str u)))) ρ1 st2 = .nx ρ2 st3 ∨ (dExpr (dApp (dVar 7) (dC (.str u)))) ρ1 st2 = .ct ρ2 st3) ∧ I (p ++ [x]) ρ2 st3 := by
    rintro p x q ρ' st1 hpq ⟨⟨y, rfl⟩, i1, i2, i3, i4⟩
    rw [List.nil_append] at hpq
    obtain ⟨r, hr, rfl⟩ := List.mem_map.mp (show x ∈ rs.map D.ref by rw [hpq]; simp)
    obtain ⟨r1, r2, _⟩ := hrs hg r hr
    obtain ⟨xs, hx, hxl⟩ := i4 r hr
    have hb1 := congrArg List.length hpq
    simp at hb1
    have hv : ((ρ.set 7 y).set 7 (some (.ref r)))[7]? = some (some (.ref r)) := List.getElem?_set_self (by simpa using hρ)
    refine ⟨_, st1, ρ.set 7 (some (.ref r)), st1.set r (.lst (xs ++ [.str u])), rfl, .inl ?_, ⟨_, rfl⟩, src_set i1 (by omega), by simp [i2], fun j hj => ?_, fun r' hr' => ?_⟩
    · simp only [dExpr_ap, dApp_ap, dVar_ap, dC_ap, hv, DRes.bind_ok, hx, toS_ok]
      rw [if_pos (by omega), List.set_set]
      rfl
    · rw [List.getElem?_set_ne (by omega)]; exact i3 j hj
    · by_cases hq : r = r'
      · subst hq
        exact ⟨_, List.getElem?_set_self (List.getElem?_eq_some_iff.mp hx).1, by simp; omega⟩
      · obtain ⟨xs', h1, h2⟩ := i4 r' hr'
        exact ⟨xs', by rw [List.getElem?_set_ne hq]; exact h1, by simp; omega⟩
  have h0 : ρ = ρ.set 7 ((ρ[7]?).getD none) := by
    apply List.ext_getElem?
    intro k
    by_cases hk : 7 = k
    · subst hk; rw [List.getElem?_set_self hρ]; simp [hρ]
    · rw [List.getElem?_set_ne hk]
  obtain ⟨ρ', st', e, ⟨x, rfl⟩, i1, i2, i3, i4⟩ := forL_inv (c := [(n5, .lst (rs.map D.ref))]) (g := gdName 7) (b := dExpr (dApp (dVar 7) (dC (.str u)))) I (rs.map D.ref) [] ρ st
    ⟨⟨_, h0⟩, hs, rfl, fun _ _ => rfl, fun r hr => by
      obtain ⟨_, _, g, hg', e⟩ := hrs hg r hr
      exact ⟨_, e, by rw [List.length_map]; have := hgl g hg'; omega⟩⟩ (fun pre ρ1 st1 ⟨_, _, _, i, _⟩ => by
      simp only [chkB_cons, chkB_nil, Bool.and_true]
      exact decide_eq_true ((i n5 (.inr hn)).trans h5)) hstep
  exact ⟨x, st', e, i1, i2, i3⟩
def tailA : DenS :=
  (dSeq (dAsg 8 (dCall G_law_plan (dCons (dLc (dISeq (dVar 4)) [7] (gdName 7) (stepE dYes (dB' listO (dCons (dVar 7) dNil)))) dNil)))
    (dSeq (dAsg 9 (dCall G_law_draw (dCons (dVar 1) (dCons (dC (.int 4)) dNil))))
    (dSeq (dIfS (dB (dOp eqO (dCall G_law_draw (dCons (dVar 1) (dCons (dC (.int 8)) dNil))) (dC (.int 7)))) (dAsg 9 (dCall G_law_draw (dCons (dVar 1) (dCons (dC (.int 101)) dNil)))) dSkip)
    (dSeq (dAsg 10 (dLc (dIRng1 (dCall G_law_draw (dCons (dVar 1) (dCons (dC (.int 4)) dNil)))) [14] (gdName 14) (stepE dYes (dOp ixO (dVar 2) (dCall G_law_draw (dCons (dVar 1) (dCons (dB' lenO (dCons (dVar 2) dNil)) dNil)))))))
    (dSeq (dAsg 11 (dLst dNil))
    (dSeq (dFor (dISeq (dOp addO (dVar 3) (dVar 4))) (gdName 7) (dAsg 11 (dOp addO (dVar 11) (dVar 7))))
    (dSeq (dAsg 12 (dLc (dISeq (dVar 3)) [7] (gdName 7) (stepE (dB (dOp gtO (dB' lenO (dCons (dVar 7) dNil)) (dC (.int 0)))) (dB' tupleO (dCons (dVar 7) dNil)))))
    (dSeq (dAsg 13 (dOp (own2 0 G_Plan_d_eqd_) (dVar 6) (dVar 8)))
    (dSeq (dIfS (dOr (dNot (dB (dIsTy "bool" (dVar 13)))) (dB (dOp neO (dVar 13) (dOp eqO (dVar 12) (dLc (dISeq (dVar 4)) [7] (gdName 7) (stepE (dB (dOp gtO (dB' lenO (dCons (dVar 7) dNil)) (dC (.int 0)))) (dB' tupleO (dCons (dVar 7) dNil)))))))) (dRet (dC (.bl false))) dSkip)
    (dSeq (dIfS (dOr (dNot (dB (dCall G_law_is (dCons (dOp (own2 0 G_Plan_d_addd_) (dVar 6) (dVar 8)) (dCons (dOp addO (dVar 3) (dVar 4)) (dCons (dVar 2) dNil)))))) (dNot (dB (dCall G_law_is (dCons (dOp (own2 0 G_Plan_d_ord_) (dVar 6) (dVar 8)) (dCons (dLst (dCons (dVar 11) dNil)) (dCons (dVar 2) dNil))))))) (dRet (dC (.bl false))) dSkip)
    (dSeq (dIfS (dOr (dNot (dB (dCall G_law_is (dCons (dOp (ownI 0 G_Plan_d_muld_) (dVar 6) (dVar 9)) (dCons (dOp mulO (dVar 3) (dVar 9)) (dCons (dVar 2) dNil)))))) (dNot (dB (dCall G_law_is (dCons (dOp (ownRI 0 G_Plan_d_rmuld_) (dVar 9) (dVar 6)) (dCons (dOp mulO (dVar 3) (dVar 9)) (dCons (dVar 2) dNil))))))) (dRet (dC (.bl false))) dSkip)
    (dSeq (dIfS (dOr (dNot (dB (dCall G_law_is (dCons (dCall G_law_apart (dCons (dVar 10) dNil)) (dCons (dLc (dISeq (dVar 10)) [15] (gdName 15) (stepE dYes (dLst (dCons (dVar 15) dNil)))) (dCons (dVar 2) dNil)))))) (dNot (dB (dCall G_law_is (dCons (dCall G_law_together (dCons (dVar 10) dNil)) (dCons (dLst (dCons (dVar 10) dNil)) (dCons (dVar 2) dNil))))))) (dRet (dC (.bl false))) dSkip)
    (dSeq (dIfS (dOr (dNot (dB (dCall G_law_is (dCons (dVar 6) (dCons (dVar 3) (dCons (dVar 2) dNil)))))) (dNot (dB (dCall G_law_is (dCons (dVar 8) (dCons (dVar 4) (dCons (dVar 2) dNil))))))) (dRet (dC (.bl false))) dSkip)
    (dSeq (dIfS (dB (dOp neO (dOp (own2 0 G_Plan_d_eqd_) (dVar 6) (dOp (own2 0 G_Plan_d_ord_) (dVar 6) (dMake 0 G_Plan_d_initd_ dNil))) (dOp ltO (dB' lenO (dCons (dVar 12) dNil)) (dC (.int 2))))) (dRet (dC (.bl false))) dSkip)
    (dRet (dAndV (dOp eqO (dOp (own2 0 G_Plan_d_eqd_) (dVar 6) (dMake 0 G_Plan_d_initd_ dNil)) (dOp eqO (dB' lenO (dCons (dVar 12) dNil)) (dC (.int 0)))) (dOp isO (dOp (own2 0 G_Plan_d_eqd_) (dVar 6) (dCall G_law_plan (dCons (dVar 3) dNil))) (dC (.bl true)))))))))))))))))))
theorem den_law_eq : den_law = (dSeq (dAsg 1 (dCall G_law_source (dCons (dVar 0) dNil)))
    (dSeq (dAsg 2 (dCall G_law_names (dCons (dVar 1) (dCons (dC (.int 6)) dNil))))
    (dSeq (dAsg 3 (dCall G_law_groups (dCons (dVar 1) (dCons (dVar 2) dNil))))
    (dSeq (dAsg 4 (dCall G_law_groups (dCons (dVar 1) (dCons (dVar 2) dNil))))
    (dSeq (dAsg 5 (dLc (dISeq (dVar 3)) [7] (gdName 7) (stepE dYes (dB' listO (dCons (dVar 7) dNil)))))
    (dSeq (dAsg 6 (dCall G_law_plan (dCons (dVar 5) dNil)))
    (dSeq (dIfS (dB (dOp neO (dVar 5) (dVar 3))) (dRet (dC (.bl false))) dSkip)
    (dSeq (dFor (dISeq (dVar 5)) (gdName 7) (dExpr (dApp (dVar 7) (dC (.str (PySem.Str.ofString "unknownname"))))))
    (dSeq (dExpr (dApp (dVar 5) (dLst (dCons (dC (.str (PySem.Str.ofString "unknownname"))) dNil))))
    tailA))))))))) := rfl
structure Mid (S : DSto) (ρ : DEnv) (gs1 gs2 : List (List Str)) : Prop where
  src : Src S
  ex : ∃ (scr x5 : D) (x7 : Option D) (n0 n1 n2 p1 : Nat) (names : List Str) (rs1 rs2 : List Nat), ρ = [some scr, some (.ref 3), some (.ref n0), some (.ref n1), some (.ref n2), some x5, some (.ref p1), x7, none, none, none, none, none, none, none, none] ∧
    4 ≤ n0 ∧ S[n0]? = some (.lst (names.map D.str)) ∧ names.length = 6 ∧ (∀ x ∈ names, Nm x) ∧ 4 ≤ n1 ∧ S[n1]? = some (.lst (rs1.map D.ref)) ∧ Grps S (rs1.map D.ref) gs1 ∧ 4 ≤ n2 ∧ S[n2]? = some (.lst (rs2.map D.ref)) ∧ Grps S (rs2.map D.ref) gs2 ∧ PlanAt S p1 (ne gs1) ∧
    gs1.length ≤ 6 ∧ gs2.length ≤ 6 ∧ (∀ g ∈ gs1, g.length ≤ 4 ∧ ∀ x ∈ g, Nm x) ∧ (∀ g ∈ gs2, g.length ≤ 4 ∧ ∀ x ∈ g, Nm x)
theorem times_ok {ρ : DEnv} {st : DSto} (h1 : ρ[1]? = some (some (.ref 3))) (hs : Src st) {T0 : Int} (h9 : ρ[9]? = some (some (.int T0))) (t0 : 0 ≤ T0) (t1 : T0 ≤ 100) :
    ∃ (T : Nat) (st' : DSto), dIfS (dB (dOp eqO (dCall G_law_draw (dCons (dVar 1) (dCons (dC (.int 8)) dNil))) (dC (.int 7)))) (dAsg 9 (dCall G_law_draw (dCons (dVar 1) (dCons (dC (.int 101)) dNil)))) dSkip ρ st = .nx (ρ.set 9 (some (.int (T : Int)))) st' ∧ T ≤ 100 ∧ Src st' ∧ Keep st st' := by
  obtain ⟨b, s1, e1, b0, b1, S1, K1⟩ := draw_ok (m := 8) hs (by decide) (by decide)
  by_cases hb : b = 7
  · obtain ⟨c, s2, e2, c0, c1, S2, K2⟩ := draw_ok (m := 101) S1 (by decide) (by decide)
    obtain ⟨c, rfl⟩ := Int.eq_ofNat_of_zero_le c0
    refine ⟨c, s2, ?_, by omega, S2, K1.trans K2⟩
    simp only [dIfS_ap, dB_ap, dOp_ap, dCall_ap, dCons_ap, dNil_ap, dVar_ap, dC_ap, h1, DRes.bind_ok, e1, eqO_int, ofO_some, hb, beq_self_eq_true, toS_ok, if_true, dAsg_ap, e2]
  · obtain ⟨T0, rfl⟩ := Int.eq_ofNat_of_zero_le t0
    refine ⟨T0, s1, ?_, by omega, S1, K1⟩
    have h0 : ρ = ρ.set 9 (some (.int (T0 : Int))) := by
      apply List.ext_getElem?
      intro k
      by_cases hk : 9 = k
      · subst hk
        rw [List.getElem?_set_self (List.getElem?_eq_some_iff.mp h9).1, h9]
      · rw [List.getElem?_set_ne hk]
    have hbb : (b == 7) = false := beq_eq_false_iff_ne.mpr hb
    simp only [dIfS_ap, dB_ap, dOp_ap, dCall_ap, dCons_ap, dNil_ap, dVar_ap, dC_ap, h1, DRes.bind_ok, e1, eqO_int, ofO_some, hbb, toS_ok, Bool.false_eq_true, if_false, dSkip_ap]
    rw [← h0]
theorem own_eq {st : DSto} {p q : Nat} {a b : List (List Str)} (ha : PlanAt st p a) (hb : PlanAt st q b) (na : Nms a) (nb : Nms b) : own2 0 G_Plan_d_eqd_ (.ref p) (.ref q) st = some (.bl (decide (a = b)), st) := by
  unfold own2
  rw [if_pos ⟨ha.isIns, hb.isIns⟩, eq_ok ha hb na nb]
  rfl
theorem own_or {st : DSto} {p q : Nat} {a b : List (List Str)} (h4 : 4 ≤ st.length) (ha : PlanAt st p a) (hb : PlanAt st q b) (hl : a.flatten.length + b.flatten.length ≤ sizeLine) :
    ∃ r st', own2 0 G_Plan_d_ord_ (.ref p) (.ref q) st = some (.ref r, st') ∧ Pre st st' ∧ PlanAt st' r (ne [a.flatten ++ b.flatten]) := by
  obtain ⟨r, st', e, h1, h2⟩ := or_ok h4 ha hb hl
  refine ⟨r, st', ?_, h1, h2⟩
  unfold own2
  rw [if_pos ⟨ha.isIns, hb.isIns⟩, e]
  rfl
theorem own_mul {st : DSto} {p k : Nat} {a : List (List Str)} (h4 : 4 ≤ st.length) (ha : PlanAt st p a) (hk : k ≤ 1000000) (hl : a.length * k ≤ sizeLine) :
    ∃ r st', ownI 0 G_Plan_d_muld_ (.ref p) (.int (k : Int)) st = some (.ref r, st') ∧ Pre st st' ∧ PlanAt st' r (ne (List.replicate k a).flatten) := by
  obtain ⟨r, st', e, h1, h2⟩ := mul_ok (.inl rfl) h4 ha hk hl
  refine ⟨r, st', ?_, h1, h2⟩
  unfold ownI
  dsimp only
  rw [if_pos ha.isIns, e]
  rfl
theorem own_rmul {st : DSto} {p k : Nat} {a : List (List Str)} (h4 : 4 ≤ st.length) (ha : PlanAt st p a) (hk : k ≤ 1000000) (hl : a.length * k ≤ sizeLine) :
    ∃ r st', ownRI 0 G_Plan_d_rmuld_ (.int (k : Int)) (.ref p) st = some (.ref r, st') ∧ Pre st st' ∧ PlanAt st' r (ne (List.replicate k a).flatten) := by
  obtain ⟨r, st', e, h1, h2⟩ := mul_ok (.inr rfl) h4 ha hk hl
  refine ⟨r, st', ?_, h1, h2⟩
  unfold ownRI
  dsimp only
  rw [if_pos ha.isIns, e]
  rfl
theorem ne_rep (a : List (List Str)) : ∀ k, ne (List.replicate k (ne a)).flatten = ne (List.replicate k a).flatten
  | 0 => rfl
  | k + 1 => by
    rw [List.replicate_succ, List.replicate_succ, List.flatten_cons, List.flatten_cons, ne_app, ne_app, ne_rep a k, ne_ne (ne_of_ne a)]
theorem grps_rep {st : DSto} {ds : List D} {gs : List (List Str)} (h : Grps st ds gs) : ∀ k, Grps st (List.replicate k ds).flatten (List.replicate k gs).flatten
  | 0 => .nil
  | k + 1 => by
    rw [List.replicate_succ, List.replicate_succ, List.flatten_cons, List.flatten_cons]
    exact Grps.app (grps_rep h k) h
theorem flat_le {gs : List (List Str)} {k : Nat} (h : ∀ g ∈ gs, g.length ≤ k) : gs.flatten.length ≤ gs.length * k := by
  rw [List.length_flatten]
  exact sum_le List.length k gs h
def tailB : DenS :=
  (dSeq (dIfS (dOr (dNot (dB (dCall G_law_is (dCons (dOp (own2 0 G_Plan_d_addd_) (dVar 6) (dVar 8)) (dCons (dOp addO (dVar 3) (dVar 4)) (dCons (dVar 2) dNil)))))) (dNot (dB (dCall G_law_is (dCons (dOp (own2 0 G_Plan_d_ord_) (dVar 6) (dVar 8)) (dCons (dLst (dCons (dVar 11) dNil)) (dCons (dVar 2) dNil))))))) (dRet (dC (.bl false))) dSkip)
    (dSeq (dIfS (dOr (dNot (dB (dCall G_law_is (dCons (dOp (ownI 0 G_Plan_d_muld_) (dVar 6) (dVar 9)) (dCons (dOp mulO (dVar 3) (dVar 9)) (dCons (dVar 2) dNil)))))) (dNot (dB (dCall G_law_is (dCons (dOp (ownRI 0 G_Plan_d_rmuld_) (dVar 9) (dVar 6)) (dCons (dOp mulO (dVar 3) (dVar 9)) (dCons (dVar 2) dNil))))))) (dRet (dC (.bl false))) dSkip)
    (dSeq (dIfS (dOr (dNot (dB (dCall G_law_is (dCons (dCall G_law_apart (dCons (dVar 10) dNil)) (dCons (dLc (dISeq (dVar 10)) [15] (gdName 15) (stepE dYes (dLst (dCons (dVar 15) dNil)))) (dCons (dVar 2) dNil)))))) (dNot (dB (dCall G_law_is (dCons (dCall G_law_together (dCons (dVar 10) dNil)) (dCons (dLst (dCons (dVar 10) dNil)) (dCons (dVar 2) dNil))))))) (dRet (dC (.bl false))) dSkip)
    (dSeq (dIfS (dOr (dNot (dB (dCall G_law_is (dCons (dVar 6) (dCons (dVar 3) (dCons (dVar 2) dNil)))))) (dNot (dB (dCall G_law_is (dCons (dVar 8) (dCons (dVar 4) (dCons (dVar 2) dNil))))))) (dRet (dC (.bl false))) dSkip)
    (dSeq (dIfS (dB (dOp neO (dOp (own2 0 G_Plan_d_eqd_) (dVar 6) (dOp (own2 0 G_Plan_d_ord_) (dVar 6) (dMake 0 G_Plan_d_initd_ dNil))) (dOp ltO (dB' lenO (dCons (dVar 12) dNil)) (dC (.int 2))))) (dRet (dC (.bl false))) dSkip)
    (dRet (dAndV (dOp eqO (dOp (own2 0 G_Plan_d_eqd_) (dVar 6) (dMake 0 G_Plan_d_initd_ dNil)) (dOp eqO (dB' lenO (dCons (dVar 12) dNil)) (dC (.int 0)))) (dOp isO (dOp (own2 0 G_Plan_d_eqd_) (dVar 6) (dCall G_law_plan (dCons (dVar 3) dNil))) (dC (.bl true))))))))))
theorem tailA_eq : tailA = (dSeq (dAsg 8 (dCall G_law_plan (dCons (dLc (dISeq (dVar 4)) [7] (gdName 7) (stepE dYes (dB' listO (dCons (dVar 7) dNil)))) dNil)))
    (dSeq (dAsg 9 (dCall G_law_draw (dCons (dVar 1) (dCons (dC (.int 4)) dNil))))
    (dSeq (dIfS (dB (dOp eqO (dCall G_law_draw (dCons (dVar 1) (dCons (dC (.int 8)) dNil))) (dC (.int 7)))) (dAsg 9 (dCall G_law_draw (dCons (dVar 1) (dCons (dC (.int 101)) dNil)))) dSkip)
    (dSeq (dAsg 10 (dLc (dIRng1 (dCall G_law_draw (dCons (dVar 1) (dCons (dC (.int 4)) dNil)))) [14] (gdName 14) (stepE dYes (dOp ixO (dVar 2) (dCall G_law_draw (dCons (dVar 1) (dCons (dB' lenO (dCons (dVar 2) dNil)) dNil)))))))
    (dSeq (dAsg 11 (dLst dNil))
    (dSeq (dFor (dISeq (dOp addO (dVar 3) (dVar 4))) (gdName 7) (dAsg 11 (dOp addO (dVar 11) (dVar 7))))
    (dSeq (dAsg 12 (dLc (dISeq (dVar 3)) [7] (gdName 7) (stepE (dB (dOp gtO (dB' lenO (dCons (dVar 7) dNil)) (dC (.int 0)))) (dB' tupleO (dCons (dVar 7) dNil)))))
    (dSeq (dAsg 13 (dOp (own2 0 G_Plan_d_eqd_) (dVar 6) (dVar 8)))
    (dSeq (dIfS (dOr (dNot (dB (dIsTy "bool" (dVar 13)))) (dB (dOp neO (dVar 13) (dOp eqO (dVar 12) (dLc (dISeq (dVar 4)) [7] (gdName 7) (stepE (dB (dOp gtO (dB' lenO (dCons (dVar 7) dNil)) (dC (.int 0)))) (dB' tupleO (dCons (dVar 7) dNil)))))))) (dRet (dC (.bl false))) dSkip)
    tailB))))))))) := rfl
/-- behind the choices: all that the law looks at -/
structure Late (S : DSto) (ρ : DEnv) (gs1 gs2 : List (List Str)) : Prop where
  l4 : 4 ≤ S.length
  ex : ∃ (scr x5 : D) (x7 : Option D) (n0 n1 n2 p1 p2 T n10 n11 n12 : Nat) (names few : List Str) (rs1 rs2 : List Nat), ρ = [some scr, some (.ref 3), some (.ref n0), some (.ref n1), some (.ref n2), some x5, some (.ref p1), x7, some (.ref p2), some (.int (T : Int)), some (.ref n10), some (.ref n11), some (.ref n12), some (.bl (decide (ne gs1 = ne gs2))), none, none] ∧
    4 ≤ n0 ∧ S[n0]? = some (.lst (names.map D.str)) ∧ names.length = 6 ∧ (∀ x ∈ names, Nm x) ∧ 4 ≤ n1 ∧ S[n1]? = some (.lst (rs1.map D.ref)) ∧ Grps S (rs1.map D.ref) gs1 ∧ 4 ≤ n2 ∧ S[n2]? = some (.lst (rs2.map D.ref)) ∧ Grps S (rs2.map D.ref) gs2 ∧ PlanAt S p1 (ne gs1) ∧ PlanAt S p2 (ne gs2) ∧
    T ≤ 100 ∧ 4 ≤ n10 ∧ S[n10]? = some (.lst (few.map D.str)) ∧ few.length ≤ 3 ∧ (∀ x ∈ few, Nm x) ∧ 4 ≤ n11 ∧ S[n11]? = some (.lst ((gs1 ++ gs2).flatten.map D.str)) ∧ S[n12]? = some (.lst ((ne gs1).map tupD)) ∧
    gs1.length ≤ 6 ∧ gs2.length ≤ 6 ∧ (∀ g ∈ gs1, g.length ≤ 4 ∧ ∀ x ∈ g, Nm x) ∧ (∀ g ∈ gs2, g.length ≤ 4 ∧ ∀ x ∈ g, Nm x)
theorem small_of {gs : List (List Str)} {k m : Nat} (hk : gs.length ≤ k) (hm : ∀ g ∈ gs, g.length ≤ m ∧ ∀ x ∈ g, Nm x) (h : k * m ≤ 100000) (h2 : k ≤ 100000) : Small gs := by
  refine ⟨fun g hg => (hm g hg).2, ?_, by omega⟩
  have h1 := flat_le (k := m) fun g hg => (hm g hg).1
  have h3 : gs.length * m ≤ k * m := Nat.mul_le_mul hk (Nat.le_refl _)
  omega
theorem ne_one (gs : List (List Str)) : (ne gs = ne [gs.flatten ++ []]) ↔ (ne gs).length < 2 := by
  rw [List.append_nil, ← ne_flat gs]
  have hall := ne_of_ne gs
  generalize ne gs = l at hall
  match l, hall with
  | [], _ => simp [ne]
  | [g], h =>
    have hg : 0 < g.length := List.length_pos_iff.mpr (h g (List.mem_cons_self ..))
    simp [ne, hg]
  | a :: b :: l, h =>
    constructor
    · intro e
      have h1 := congrArg List.length e
      have h2 := ne_le [(a :: b :: l).flatten]
      simp only [List.length_cons, List.length_nil] at h1 h2
      omega
    · intro e
      simp only [List.length_cons] at e
      omega
theorem late_ok {S : DSto} {ρ : DEnv} {gs1 gs2 : List (List Str)} (h : Late S ρ gs1 gs2) : ∃ st', tailB ρ S = .rt (.bl true) st' := by
  have sz := szl
  obtain ⟨l4, scr, x5, x7, n0, n1, n2, p1, p2, T, n10, n11, n12, names, few, rs1, rs2, rfl, hn0, hN, hnl, hNm, hn1, hA, hG1, hn2, hB, hG2, hP1, hP2, hT, hn10, hF, hfl, hfm, hn11, hJ, hL, c1, c2, d1, d2⟩ := h
  have f1 := flat_le (k := 4) fun g hg => (d1 g hg).1
  have f2 := flat_le (k := 4) fun g hg => (d2 g hg).1
  have z1 := ne_le gs1
  have z2 := ne_le gs2
  have y1 := ne_flat gs1
  have y2 := ne_flat gs2
  have d12 : ∀ g ∈ gs1 ++ gs2, g.length ≤ 4 ∧ ∀ x ∈ g, Nm x := fun g hg => (List.mem_append.mp hg).elim (d1 g) (d2 g)
  have hj : (gs1 ++ gs2).flatten.length ≤ 48 := by rw [List.flatten_append, List.length_append]; omega
  have nj : ∀ x ∈ (gs1 ++ gs2).flatten, Nm x := fun x hx => by
    obtain ⟨g, hg, hx⟩ := List.mem_flatten.mp hx
    exact (d12 g hg).2 x hx
  have sm12 : Small (gs1 ++ gs2) := small_of (k := 12) (m := 4) (by rw [List.length_append]; omega) d12 (by decide) (by decide)
  have smJ : Small [(gs1 ++ gs2).flatten] := small_of (k := 1) (m := 48) (by simp) (fun g hg => by rw [List.mem_singleton.mp hg]; exact ⟨hj, nj⟩) (by decide) (by decide)
  have hrl : ((List.replicate T gs1).flatten).length ≤ 600 := by
    rw [List.length_flatten, List.map_replicate, List.sum_replicate_nat]
    have := Nat.mul_le_mul hT c1
    omega
  have smR : Small (List.replicate T gs1).flatten := small_of (k := 600) (m := 4) hrl (fun g hg => by
    obtain ⟨l, hl, hg⟩ := List.mem_flatten.mp hg
    rw [(List.mem_replicate.mp hl).2] at hg
    exact d1 g hg) (by decide) (by decide)
  have sm1 : Small gs1 := small_of (k := 6) (m := 4) c1 d1 (by decide) (by decide)
  have sm2 : Small gs2 := small_of (k := 6) (m := 4) c2 d2 (by decide) (by decide)
  have smF : Small [few] := small_of (k := 1) (m := 3) (by simp) (fun g hg => by rw [List.mem_singleton.mp hg]; exact ⟨hfl, hfm⟩) (by decide) (by decide)
  have smA : Small (few.map fun x => [x]) := small_of (k := 3) (m := 1) (by simpa using hfl) (fun g hg => by
    obtain ⟨x, hx, rfl⟩ := List.mem_map.mp hg
    exact ⟨by simp, fun y hy => by rw [List.mem_singleton.mp hy]; exact hfm x hx⟩) (by decide) (by decide)
  have hNl : names.length ≤ 100 := by omega
  have hr1 := paired_len hG1
  have hr2 := paired_len hG2
  -- the sum
  obtain ⟨s1, e1, q1, P1, _⟩ := own_add l4 hP1 hP2 (by omega)
  rw [ne_two] at P1
  have m1 := q1.len
  have e2 := addO_lst (pre_get q1 hA) (pre_get q1 hB) (by omega)
  obtain ⟨s2, hs2⟩ : ∃ s2, s2 = s1 ++ [DObj.lst (rs1.map D.ref ++ rs2.map D.ref)] := ⟨_, rfl⟩
  rw [← hs2] at e2
  have q2 : Pre s1 s2 := ⟨_, hs2⟩
  have v2 := q1.trans q2
  have m2 := v2.len
  obtain ⟨s3, e3, q3⟩ := is_ok (st := s2) (by omega) (P1.keep (q2.keep (by omega))) (by omega) (show s2[s1.length]? = _ by rw [hs2]; simp) (Grps.app (hG2.keep (v2.keep l4)) (hG1.keep (v2.keep l4))) hn0 (pre_get v2 hN) hNm hNl sm12
  have v3 := v2.trans q3
  have m3 := v3.len
  -- the union
  obtain ⟨r4, s4, e4, q4, P4⟩ := own_or (st := s3) (by omega) (hP1.keep (v3.keep l4)) (hP2.keep (v3.keep l4)) (by rw [y1, y2]; omega)
  rw [y1, y2, ← List.flatten_append] at P4
  have v4 := v3.trans q4
  have m4 := v4.len
  obtain ⟨s5, hs5⟩ : ∃ s5, s5 = s4 ++ [DObj.lst [.ref n11]] := ⟨_, rfl⟩
  have q5 : Pre s4 s5 := ⟨_, hs5⟩
  have v5 := v4.trans q5
  have m5 := v5.len
  obtain ⟨s6, e6, q6⟩ := is_ok (st := s5) (by omega) (P4.keep (q5.keep (by omega))) (by omega) (show s5[s4.length]? = _ by rw [hs5]; simp) (.cons (.inr ⟨n11, rfl, hn11, pre_get v5 hJ⟩) .nil) hn0 (pre_get v5 hN) hNm hNl smJ
  have v6 := v5.trans q6
  have m6 := v6.len
  have hTa : (ne gs1).length * T ≤ sizeLine := by
    have := Nat.mul_le_mul (Nat.le_trans z1 c1) hT
    omega
  have hTb : (rs1.map D.ref).length * T ≤ sizeLine := by
    rw [← hr1]
    have := Nat.mul_le_mul c1 hT
    omega
  -- plan * times
  obtain ⟨r7, s7, e7, q7, P7⟩ := own_mul (st := s6) (k := T) (by omega) (hP1.keep (v6.keep l4)) (by omega) hTa
  rw [ne_rep] at P7
  have v7 := v6.trans q7
  have m7 := v7.len
  have e8 := mulL s7 (k := T) (pre_get v7 hA) (by omega) hTb
  obtain ⟨s8, hs8⟩ : ∃ s8, s8 = s7 ++ [DObj.lst (List.replicate T (rs1.map D.ref)).flatten] := ⟨_, rfl⟩
  rw [← hs8] at e8
  have q8 : Pre s7 s8 := ⟨_, hs8⟩
  have v8 := v7.trans q8
  have m8 := v8.len
  obtain ⟨s9, e9, q9⟩ := is_ok (st := s8) (by omega) (P7.keep (q8.keep (by omega))) (by omega) (show s8[s7.length]? = _ by rw [hs8]; simp) (grps_rep (hG1.keep (v8.keep l4)) T) hn0 (pre_get v8 hN) hNm hNl smR
  have v9 := v8.trans q9
  have m9 := v9.len
  -- times * plan
  obtain ⟨r10, s10, e10, q10, P10⟩ := own_rmul (st := s9) (k := T) (by omega) (hP1.keep (v9.keep l4)) (by omega) hTa
  rw [ne_rep] at P10
  have v10 := v9.trans q10
  have m10 := v10.len
  have e11 := mulL s10 (k := T) (pre_get v10 hA) (by omega) hTb
  obtain ⟨s11, hs11⟩ : ∃ s11, s11 = s10 ++ [DObj.lst (List.replicate T (rs1.map D.ref)).flatten] := ⟨_, rfl⟩
  rw [← hs11] at e11
  have q11 : Pre s10 s11 := ⟨_, hs11⟩
  have v11 := v10.trans q11
  have m11 := v11.len
  obtain ⟨s12, e12, q12⟩ := is_ok (st := s11) (by omega) (P10.keep (q11.keep (by omega))) (by omega) (show s11[s10.length]? = _ by rw [hs11]; simp) (grps_rep (hG1.keep (v11.keep l4)) T) hn0 (pre_get v11 hN) hNm hNl smR
  have v12 := v11.trans q12
  have m12 := v12.len
  -- apart
  obtain ⟨r13, s13, e13, q13, P13⟩ := lapart_ok (st := s12) (by omega) (pre_get v12 hF) hfl
  rw [← ne_ne (gs := few.map fun x => [x]) (fun y hy => by
    obtain ⟨x, _, rfl⟩ := List.mem_map.mp hy
    simp)] at P13
  have v13 := v12.trans q13
  have m13 := v13.len
  have F13 := pre_get v13 hF
  obtain ⟨rs14, s14, e14, q14, g14⟩ := singles_ok (c := [(n10, .lst (few.map D.str))]) (i := 15) (ρ := [some scr, some (.ref 3), some (.ref n0), some (.ref n1), some (.ref n2), some x5, some (.ref p1), x7, some (.ref p2), some (.int (T : Int)), some (.ref n10), some (.ref n11), some (.ref n12), some (.bl (decide (ne gs1 = ne gs2))), none, none]) (st := s13) (by simp) (fun st' q => by simp only [chkB_cons, chkB_nil, Bool.and_true]; exact decide_eq_true (pre_get q F13)) few (by omega)
  have v14 := v13.trans q14
  have m14 := v14.len
  obtain ⟨s15, hs15⟩ : ∃ s15, s15 = s14 ++ [DObj.lst (rs14.map D.ref)] := ⟨_, rfl⟩
  have q15 : Pre s14 s15 := ⟨_, hs15⟩
  have v15 := v14.trans q15
  have m15 := v15.len
  obtain ⟨s16, e16, q16⟩ := is_ok (st := s15) (by omega) (P13.keep ((q14.trans q15).keep (by omega))) (by omega) (show s15[s14.length]? = _ by rw [hs15]; simp) (GP.grps (by omega) (fun r o _ _ e => pre_get q15 e) g14) hn0 (pre_get v15 hN) hNm hNl smA
  have v16 := v15.trans q16
  have m16 := v16.len
  -- together
  obtain ⟨r17, s17, e17, q17, P17⟩ := ltogether_ok (st := s16) (by omega) (pre_get v16 hF) hfl
  have v17 := v16.trans q17
  have m17 := v17.len
  obtain ⟨s18, hs18⟩ : ∃ s18, s18 = s17 ++ [DObj.lst [.ref n10]] := ⟨_, rfl⟩
  have q18 : Pre s17 s18 := ⟨_, hs18⟩
  have v18 := v17.trans q18
  have m18 := v18.len
  obtain ⟨s19, e19, q19⟩ := is_ok (st := s18) (by omega) (P17.keep (q18.keep (by omega))) (by omega) (show s18[s17.length]? = _ by rw [hs18]; simp) (.cons (.inr ⟨n10, rfl, hn10, pre_get v18 hF⟩) .nil) hn0 (pre_get v18 hN) hNm hNl smF
  have v19 := v18.trans q19
  have m19 := v19.len
  -- both plans stay
  obtain ⟨s20, e20, q20⟩ := is_ok (st := s19) (by omega) (hP1.keep (v19.keep l4)) hn1 (pre_get v19 hA) (hG1.keep (v19.keep l4)) hn0 (pre_get v19 hN) hNm hNl sm1
  have v20 := v19.trans q20
  have m20 := v20.len
  obtain ⟨s21, e21, q21⟩ := is_ok (st := s20) (by omega) (hP2.keep (v20.keep l4)) hn2 (pre_get v20 hB) (hG2.keep (v20.keep l4)) hn0 (pre_get v20 hN) hNm hNl sm2
  have v21 := v20.trans q21
  have m21 := v21.len
  -- first | Plan()
  obtain ⟨ν, e22, P22⟩ := made (st := s21) (by omega) (ds := []) (gs := []) .nil (by show 0 ≤ _; omega)
  have v22 := v21.trans (Pre.add ν)
  have m22 := v22.len
  obtain ⟨r23, s23, e23, q23, P23⟩ := own_or (st := s21 ++ ν) (by omega) (hP1.keep (v22.keep l4)) P22 (by rw [y1]; show gs1.flatten.length + 0 ≤ _; omega)
  rw [show (ne ([] : List (List Str))).flatten = [] from rfl, y1] at P23
  have v23 := v22.trans q23
  have m23 := v23.len
  have nm1 : Nms (ne gs1) := (small_ne sm1).nm
  have nmj : Nms (ne [gs1.flatten ++ []]) := fun g hg x hx => by
    have h1 := (List.mem_filter.mp hg).1
    rw [List.mem_singleton.mp h1, List.append_nil] at hx
    obtain ⟨g', hg', hx⟩ := List.mem_flatten.mp hx
    exact (d1 g' hg').2 x hx
  have e24 := own_eq (hP1.keep (v23.keep l4)) P23 nm1 nmj
  have e25 : lenO [.ref n12] s23 = some (.int (ne gs1).length, s23) := by rw [llen (pre_get v23 hL), List.length_map]
  obtain ⟨μ, e26, P26⟩ := made (st := s23) (by omega) (ds := []) (gs := []) .nil (by show 0 ≤ _; omega)
  have v26 := v23.trans (Pre.add μ)
  have m26 := v26.len
  have e27 := own_eq (hP1.keep (v26.keep l4)) P26 nm1 (fun g hg => by cases hg)
  have e28 : lenO [.ref n12] (s23 ++ μ) = some (.int (ne gs1).length, s23 ++ μ) := by rw [llen (pre_get v26 hL), List.length_map]
  obtain ⟨r29, s29, e29, q29, P29, _⟩ := lplan_ok (st := s23 ++ μ) (by omega) hn1 (pre_get v26 hA) (hG1.keep (v26.keep l4)) (by omega)
  have v29 := v26.trans q29
  have e30 := own_eq (hP1.keep (v29.keep l4)) P29 nm1 nm1
  refine ⟨s29, ?_⟩
  have o1 : ([D.ref n11]).length ≤ sizeLine := by simp; omega
  have o2 : ([D.ref n10]).length ≤ sizeLine := by simp; omega
  have mk4 : mkLst [.ref n11] s4 = .ok (.ref s4.length) s5 := by unfold mkLst; rw [if_pos o1, hs5]
  have mk17 : mkLst [.ref n10] s17 = .ok (.ref s17.length) s18 := by unfold mkLst; rw [if_pos o2, hs18]
  have t1 : decide (ne gs1 = ne [gs1.flatten ++ []]) = decide (((ne gs1).length : Int) < 2) := by
    rw [Bool.eq_iff_iff, decide_eq_true_iff, decide_eq_true_iff, ne_one]
    omega
  have t2 : decide (ne gs1 = ne []) = (((ne gs1).length : Int) == 0) := by
    rw [Bool.eq_iff_iff, decide_eq_true_iff, beq_iff_eq]
    show ne gs1 = [] ↔ _
    rw [← List.length_eq_zero_iff]
    omega
  unfold tailB
  simp only [dSeq_ap, dIfS_ap, dOr_ap, dNot_ap, dB_ap, dCall_ap, dCons_ap, dNil_ap, dOp_ap, dVar_ap, dC_ap, List.getElem?_cons_zero, List.getElem?_cons_succ, DRes.bind_ok, ofO_some, e1, e2, e3, Bool.not_true, Bool.false_eq_true, if_false, e4, dLst_ap, mk4, e6, toS_ok, dSkip_ap, andThen_nx]
  simp only [dSeq_ap, dIfS_ap, dOr_ap, dNot_ap, dB_ap, dCall_ap, dCons_ap, dNil_ap, dOp_ap, dVar_ap, dC_ap, List.getElem?_cons_zero, List.getElem?_cons_succ, DRes.bind_ok, ofO_some, e7, e8, e9, e10, e11, e12, Bool.not_true, Bool.false_eq_true, if_false, toS_ok, dSkip_ap, andThen_nx]
  simp only [dSeq_ap, dIfS_ap, dOr_ap, dNot_ap, dB_ap, dCall_ap, dCons_ap, dNil_ap, dOp_ap, dVar_ap, dC_ap, List.getElem?_cons_zero, List.getElem?_cons_succ, DRes.bind_ok, ofO_some, e13, dLc_ap, dISeq_ap, F13, e14, ← hs15, e16, e17, dLst_ap, mk17, e19, e20, e21, Bool.not_true, Bool.false_eq_true, if_false, toS_ok, dSkip_ap, andThen_nx]
  simp only [dSeq_ap, dIfS_ap, dB_ap, dCons_ap, dNil_ap, dOp_ap, dB'_ap, dVar_ap, dC_ap, dMake_ap, List.getElem?_cons_zero, List.getElem?_cons_succ, DRes.bind_ok, ofO_some, e22, e23, e24, e25, cmpI_int, t1, neO_bl, beq_self_eq_true, Bool.not_true, Bool.false_eq_true, if_false, toS_ok, dSkip_ap, andThen_nx]
  simp only [dRet_ap, dAndV_ap, dCall_ap, dCons_ap, dNil_ap, dOp_ap, dB'_ap, dVar_ap, dC_ap, dMake_ap, List.getElem?_cons_zero, List.getElem?_cons_succ, DRes.bind_ok, ofO_some, e26, e27, e28, eqO_int, t2, eqO_bl, beq_self_eq_true, e29, e30, isO, decide_true, toS_ok]
theorem tail_ok {S : DSto} {ρ : DEnv} {gs1 gs2 : List (List Str)} (h : Mid S ρ gs1 gs2) : ∃ st', tailA ρ S = .rt (.bl true) st' := by
  have sz := szl
  obtain ⟨SS, scr, x5, x7, n0, n1, n2, p1, names, rs1, rs2, rfl, hn0, hN, hnl, hNm, hn1, hA, hG1, hn2, hB, hG2, hP1, c1, c2, d1, d2⟩ := h
  have l0 := SS.len
  obtain ⟨rs6, t1, e1, p1', g6⟩ := copies_ok (c := [(n2, .lst (rs2.map D.ref))]) (i := 7) (ρ := [some scr, some (.ref 3), some (.ref n0), some (.ref n1), some (.ref n2), some x5, some (.ref p1), x7, none, none, none, none, none, none, none, none]) (st := S) (by simp) l0
    (fun st' q => by simp only [chkB_cons, chkB_nil, Bool.and_true]; exact decide_eq_true (pre_get q hB)) hG2 (by omega)
  have m1 := p1'.len
  obtain ⟨t2, ht2⟩ : ∃ t2, t2 = t1 ++ [DObj.lst (rs6.map D.ref)] := ⟨_, rfl⟩
  have q2 : Pre t1 t2 := ⟨_, ht2⟩
  have m2 := q2.len
  have n6 : t2[t1.length]? = some (.lst (rs6.map D.ref)) := by rw [ht2]; simp
  have G6 : Grps t2 (rs6.map D.ref) gs2 := GP.grps l0 (fun r o h1 h2 e => pre_get q2 e) g6
  obtain ⟨p2, t3, e2, q3, P2, _⟩ := lplan_ok (st := t2) (by omega) (by omega) n6 G6 (by omega)
  have m3 := q3.len
  have Q3 : Pre S t3 := (p1'.trans q2).trans q3
  obtain ⟨T0, t4, e3, a0, a1, S4, K4⟩ := draw_ok (m := 4) (Q3.src SS) (by decide) (by decide)
  obtain ⟨T, t5, e4, hT, S5, K5⟩ := times_ok (ρ := [some scr, some (.ref 3), some (.ref n0), some (.ref n1), some (.ref n2), some x5, some (.ref p1), x7, some (.ref p2), some (.int T0), none, none, none, none, none, none]) rfl S4 rfl a0 (by omega)
  have K35 := (Q3.keep l0).trans (K4.trans K5)
  obtain ⟨k, t6, e5, k0, k1, S6, K6⟩ := draw_ok (m := 4) S5 (by decide) (by decide)
  obtain ⟨k, rfl⟩ := Int.eq_ofNat_of_zero_le k0
  have K36 := K35.trans K6
  obtain ⟨few, t7, e6, fl, fm, S7, K7⟩ := draws_ok (names := names) (m := n0) (by intro z; rw [z] at hnl; cases hnl) (by omega) (k := k) (by omega) t6 S6 hn0 (K36.get hn0 hN)
    [some scr, some (.ref 3), some (.ref n0), some (.ref n1), some (.ref n2), some x5, some (.ref p1), x7, some (.ref p2), some (.int (T : Int)), none, none, none, none, none, none] [14] 14 2 1 rfl rfl (by decide) (by decide)
  have K37 := K36.trans K7
  have m7 := S7.len
  obtain ⟨t8, ht8⟩ : ∃ t8, t8 = t7 ++ [DObj.lst (few.map D.str)] := ⟨_, rfl⟩
  have q8 : Pre t7 t8 := ⟨_, ht8⟩
  have n8 : t8[t7.length]? = some (.lst (few.map D.str)) := by rw [ht8]; simp
  have m8 := q8.len
  obtain ⟨t9, ht9⟩ : ∃ t9, t9 = t8 ++ [DObj.lst []] := ⟨_, rfl⟩
  have q9 : Pre t8 t9 := ⟨_, ht9⟩
  have n9 : t9[t8.length]? = some (.lst []) := by rw [ht9]; simp
  have m9 := q9.len
  have K39 := K37.trans ((q8.trans q9).keep m7)
  have hg1 := paired_len hG1
  have hg2 := paired_len hG2
  have hg1' := hg1
  have hg2' := hg2
  simp at hg1' hg2'
  have e7 := addO_lst (K39.get hn1 hA) (K39.get hn2 hB) (by omega)
  obtain ⟨t10, ht10⟩ : ∃ t10, t10 = t9 ++ [DObj.lst (rs1.map D.ref ++ rs2.map D.ref)] := ⟨_, rfl⟩
  rw [← ht10] at e7
  have q10 : Pre t9 t10 := ⟨_, ht10⟩
  have n10 : t10[t9.length]? = some (.lst (rs1.map D.ref ++ rs2.map D.ref)) := by rw [ht10]; simp
  have m10 := q10.len
  have K310 := K39.trans (q10.keep (by omega))
  have f1 := flat_le (k := 4) fun g hg => (d1 g hg).1
  have f2 := flat_le (k := 4) fun g hg => (d2 g hg).1
  obtain ⟨x, w, t11, e8, q11, n11, w4⟩ := join_loop (pre0 := []) (post0 := []) (c := [(t9.length, .lst (rs1.map D.ref ++ rs2.map D.ref))]) (ρ0 := [some scr, some (.ref 3), some (.ref n0), some (.ref n1), some (.ref n2), some x5, some (.ref p1), x7, some (.ref p2), some (.int (T : Int)), some (.ref t7.length), some (.ref t8.length), none, none, none, none]) (j := 11) (i := 7) (n2 := t8.length) (by simp) (by simp) (by decide)
    (fun st' q => by simp only [chkB_cons, chkB_nil, Bool.and_true]; exact decide_eq_true (pre_get q n10)) (st := t10) (by omega) (Grps.app (hG2.keep K310) (hG1.keep K310)) (fun d hd => by
      rcases List.mem_append.mp hd with hd | hd
      · obtain ⟨r, _, rfl⟩ := List.mem_map.mp hd; exact ⟨r, rfl⟩
      · obtain ⟨r, _, rfl⟩ := List.mem_map.mp hd; exact ⟨r, rfl⟩) (by rw [List.flatten_append, List.length_append]; omega) rfl (by omega) (pre_get q10 n9)
  have m11 := q11.len
  have K311 := K310.trans (q11.keep (by omega))
  have hA11 := K311.get hn1 hA
  have e9 := clean_ok (c := [(n1, .lst (rs1.map D.ref))]) (i := 7) (ρ := [some scr, some (.ref 3), some (.ref n0), some (.ref n1), some (.ref n2), some x5, some (.ref p1), x, some (.ref p2), some (.int (T : Int)), some (.ref t7.length), some (.ref w), none, none, none, none]) (st := t11) (by simp) (by simp only [chkB_cons, chkB_nil, Bool.and_true]; exact decide_eq_true hA11) [] (hG1.keep K311) (by simp; omega)
  rw [List.nil_append] at e9
  unfold clD at e9
  obtain ⟨t12, ht12⟩ : ∃ t12, t12 = t11 ++ [DObj.lst ((ne gs1).map tupD)] := ⟨_, rfl⟩
  have q12 : Pre t11 t12 := ⟨_, ht12⟩
  have n12 : t12[t11.length]? = some (.lst ((ne gs1).map tupD)) := by rw [ht12]; simp
  have m12 := q12.len
  have K312 := K311.trans (q12.keep (by omega))
  have nm1 : Nms (ne gs1) := fun g hg => (d1 g (List.mem_filter.mp hg).1).2
  have nm2 : Nms (ne gs2) := fun g hg => (d2 g (List.mem_filter.mp hg).1).2
  have KP2 : Keep t3 t12 := K4.trans (K5.trans (K6.trans (K7.trans (((((q8.trans q9).trans q10).trans q11).trans q12).keep m7))))
  have e10 := own_eq (hP1.keep K312) (P2.keep KP2) nm1 nm2
  have hB12 := K312.get hn2 hB
  have e11 := clean_ok (c := [(n2, .lst (rs2.map D.ref))]) (i := 7) (ρ := [some scr, some (.ref 3), some (.ref n0), some (.ref n1), some (.ref n2), some x5, some (.ref p1), x, some (.ref p2), some (.int (T : Int)), some (.ref t7.length), some (.ref w), some (.ref t11.length), some (.bl (decide (ne gs1 = ne gs2))), none, none]) (st := t12) (by simp) (by simp only [chkB_cons, chkB_nil, Bool.and_true]; exact decide_eq_true hB12) [] (hG2.keep K312) (by simp; omega)
  rw [List.nil_append] at e11
  unfold clD at e11
  obtain ⟨t13, ht13⟩ : ∃ t13, t13 = t12 ++ [DObj.lst ((ne gs2).map tupD)] := ⟨_, rfl⟩
  have q13 : Pre t12 t13 := ⟨_, ht13⟩
  have n13 : t13[t12.length]? = some (.lst ((ne gs2).map tupD)) := by rw [ht13]; simp
  have m13 := q13.len
  have e12 := (eqO_tups (pre_get q13 n12) n13 nm1 nm2).1
  have K313 := K312.trans (q13.keep (by omega))
  have LL : Late t13 [some scr, some (.ref 3), some (.ref n0), some (.ref n1), some (.ref n2), some x5, some (.ref p1), x, some (.ref p2), some (.int (T : Int)), some (.ref t7.length), some (.ref w), some (.ref t11.length), some (.bl (decide (ne gs1 = ne gs2))), none, none] gs1 gs2 :=
    ⟨by omega, scr, x5, x, n0, n1, n2, p1, p2, T, t7.length, w, t11.length, names, few, rs1, rs2, rfl, hn0, K313.get hn0 hN, hnl, hNm, hn1, K313.get hn1 hA, hG1.keep K313, hn2, K313.get hn2 hB, hG2.keep K313, hP1.keep K313, P2.keep (KP2.trans (q13.keep (by omega))), hT, m7,
      pre_get ((((q9.trans q10).trans q11).trans q12).trans q13) n8, by omega, fun y hy => hNm y (fm y hy), w4, pre_get (q12.trans q13) n11, pre_get q13 n12, c1, c2, d1, d2⟩
  obtain ⟨st', e13⟩ := late_ok LL
  refine ⟨st', ?_⟩
  have hl0 : ([] : List D).length ≤ sizeLine := by simp
  have mk0 : mkLst [] t8 = .ok (.ref t8.length) t9 := by unfold mkLst; rw [if_pos hl0, ht9]
  rw [tailA_eq]
  simp only [dSeq_ap, dAsg_ap, dCall_ap, dCons_ap, dNil_ap, dVar_ap, dC_ap, List.getElem?_cons_zero, List.getElem?_cons_succ, List.set_cons_zero, List.set_cons_succ, DRes.bind_ok, dLc_ap, dISeq_ap, hB, e1, ← ht2, e2, toS_ok, andThen_nx, e3, e4]
  simp only [dSeq_ap, dAsg_ap, dCall_ap, dCons_ap, dNil_ap, dVar_ap, dC_ap, List.getElem?_cons_zero, List.getElem?_cons_succ, List.set_cons_zero, List.set_cons_succ, DRes.bind_ok, dLc_ap, dIRng1_ap, e5, rngO_0 (n := k) (by omega), e6, ← ht8, toS_ok, andThen_nx, dLst_ap, mk0, dFor_ap, dISeq_ap, dOp_ap, e7, ofO_some, n10, e8, hA11, e9, ← ht12, e10]
  simp only [dIfS_ap, dOr_ap, dNot_ap, dB_ap, dIsTy_ap, dOp_ap, dLc_ap, dISeq_ap, dVar_ap, List.getElem?_cons_zero, List.getElem?_cons_succ, DRes.bind_ok, tyName, kitB_bool, Bool.not_true, Bool.false_eq_true, if_false, hB12, e11, ← ht13, e12, ofO_some, neO_bl, beq_self_eq_true, toS_ok, dSkip_ap, andThen_nx, e13]
theorem law_plain (ns : List Int) (hl : ns.length ≤ 63) : ∃ st, G_law [.scr ns] [] = .ok (.bl true) st := by
  have sz := szl
  obtain ⟨s0, e0, S0, L0⟩ := source_ok ns hl
  obtain ⟨names, n0, s1, e1, hn0, hN1, hlen, hnd, hnm, S1, K1⟩ := names_ok (count := 6) S0 (by decide)
  have hne : names ≠ [] := by intro z; rw [z] at hlen; cases hlen
  have hNm : ∀ x ∈ names, Nm x := fun x hx => ⟨(hnm x hx).1, by have := (hnm x hx).2.2; omega⟩
  obtain ⟨n1, gs1, s2, e2, ⟨⟨rs1, a1, g1⟩, z1⟩, b1, c1, d1, S2, K2⟩ := groups_ok hne (by omega) S1 hn0 hN1
  have hN2 := K2.get hn0 hN1
  obtain ⟨n2, gs2, s3, e3, ⟨⟨rs2, a2, g2⟩, z2⟩, b2, c2, d2, S3, K3⟩ := groups_ok hne (by omega) S2 hn0 hN2
  have hN3 := K3.get hn0 hN2
  have l1 := S1.len
  have l2 := S2.len
  have l3 := S3.len
  have A3 := K3.get (by omega) a1
  have k23 := keep_len K3 l3
  have G3 : Grps s3 (rs1.map D.ref) gs1 := GP.grps l1 (fun r o h1 h2 e => K3.get (by omega) e) g1
  obtain ⟨rs5, s4, e5, p5, g5⟩ := copies_ok (c := [(n1, .lst (rs1.map D.ref))]) (i := 7) (ρ := [some (.scr ns), some (.ref 3), some (.ref n0), some (.ref n1), some (.ref n2), none, none, none, none, none, none, none, none, none, none, none]) (st := s3) (by simp) l3
    (fun st' q => by simp only [chkB_cons, chkB_nil, Bool.and_true]; exact decide_eq_true (pre_get q A3)) G3 (by omega)
  have l34 := p5.len
  obtain ⟨t4, ht4⟩ : ∃ t4, t4 = s4 ++ [DObj.lst (rs5.map D.ref)] := ⟨_, rfl⟩
  have q4 : Pre s4 t4 := ⟨_, ht4⟩
  have l44 : t4.length = s4.length + 1 := by rw [ht4]; simp
  have n5 : t4[s4.length]? = some (.lst (rs5.map D.ref)) := by rw [ht4]; simp
  have G4 : Grps t4 (rs5.map D.ref) gs1 := GP.grps l3 (fun r o h1 h2 e => pre_get q4 e) g5
  obtain ⟨p1, s5, e6, q5, P1, P1lo⟩ := lplan_ok (st := t4) (by omega) (by omega) n5 G4 (by omega)
  have l5 := q5.len
  have n55 := pre_get q5 n5
  have A5 := pre_get ((p5.trans q4).trans q5) A3
  have nm1 : Nms gs1 := fun g hg x hx => hNm x ((d1 g hg).2 x hx)
  have w1 : Paired (fun r g => s5[r]? = some (.lst (g.map D.str))) rs5 gs1 := paired_mono (fun r g ⟨_, _, e⟩ => pre_get (q4.trans q5) e) g5
  have w2 : Paired (fun r g => s5[r]? = some (.lst (g.map D.str))) rs1 gs1 := paired_mono (fun r g ⟨y1, _, e⟩ => pre_get ((p5.trans q4).trans q5) (K3.get (by omega) e)) g1
  have e7 := neO_lsts n55 A5 w1 w2 nm1
  have w3 : Paired (fun r g => s3.length ≤ r ∧ r < s4.length ∧ s5[r]? = some (.lst (g.map D.str))) rs5 gs1 := paired_mono (fun r g ⟨y1, y2, e⟩ => ⟨y1, y2, pre_get (q4.trans q5) e⟩) g5
  have S5 : Src s5 := ((p5.trans q4).trans q5).src S3
  obtain ⟨x7, s6, e8, S6, l6, f6⟩ := app_loop (u := PySem.Str.ofString "unknownname") (ρ := [some (.scr ns), some (.ref 3), some (.ref n0), some (.ref n1), some (.ref n2), some (.ref s4.length), some (.ref p1), none, none, none, none, none, none, none, none, none]) (by simp) S5 l3 w3 (Nat.le_refl _) n55 (fun g hg => by have := (d1 g hg).1; omega) (by omega)
  have n56 : s6[s4.length]? = some (.lst (rs5.map D.ref)) := (f6 _ (.inr (Nat.le_refl _))).trans n55
  obtain ⟨s7, hs7⟩ : ∃ s7, s7 = (s6 ++ [DObj.lst [.str (PySem.Str.ofString "unknownname")]]).set s4.length (.lst (rs5.map D.ref ++ [.ref s6.length])) := ⟨_, rfl⟩
  have S7 : Src s7 := by rw [hs7]; exact src_set (S6.app _) (by omega)
  have get7 : ∀ j o, (j < s3.length ∨ t4.length ≤ j) → s5[j]? = some o → s7[j]? = some o := fun j o hj e => by
    have hj5 := (List.getElem?_eq_some_iff.mp e).1
    rw [hs7, List.getElem?_set_ne (by omega), List.getElem?_append_left (by omega), f6 j (by omega)]
    exact e
  have lt3 : ∀ {j : Nat} {o : DObj}, s3[j]? = some o → j < s3.length := fun e => (List.getElem?_eq_some_iff.mp e).1
  have to7 : ∀ {j : Nat} {o : DObj}, s3[j]? = some o → s7[j]? = some o := fun e => get7 _ _ (.inl (lt3 e)) (pre_get ((p5.trans q4).trans q5) e)
  have B3 := a2
  have P7 : PlanAt s7 p1 (ne gs1) := by
    obtain ⟨hp4, q, hq, hq4, hq2⟩ := P1
    exact ⟨hp4, q, get7 _ _ (.inr P1lo.1) hq, hq4, get7 _ _ (.inr (P1lo.2 q hq)) hq2⟩
  have M : Mid s7 [some (.scr ns), some (.ref 3), some (.ref n0), some (.ref n1), some (.ref n2), some (.ref s4.length), some (.ref p1), x7, none, none, none, none, none, none, none, none] gs1 gs2 :=
    ⟨S7, .scr ns, .ref s4.length, x7, n0, n1, n2, p1, names, rs1, rs2, rfl, hn0, to7 hN3, hlen, hNm, by omega, to7 A3,
      GP.grps l1 (fun r o h1 h2 e => to7 (K3.get (by omega) e)) g1, by omega, to7 B3, GP.grps l2 (fun r o h1 h2 e => to7 e) g2, P7, c1, c2, fun g hg => ⟨(d1 g hg).1, fun x hx => hNm x ((d1 g hg).2 x hx)⟩, fun g hg => ⟨(d2 g hg).1, fun x hx => hNm x ((d2 g hg).2 x hx)⟩⟩
  obtain ⟨st', e9⟩ := tail_ok M
  refine ⟨st', ?_⟩
  have h1l : ([D.str (PySem.Str.ofString "unknownname")]).length ≤ sizeLine := by simp; omega
  have mk : mkLst [.str (PySem.Str.ofString "unknownname")] s6 = .ok (.ref s6.length) (s6 ++ [.lst [.str (PySem.Str.ofString "unknownname")]]) := by
    unfold mkLst
    rw [if_pos h1l]
  have n57 := pre_get (Pre.add [DObj.lst [.str (PySem.Str.ofString "unknownname")]]) n56
  have hl5 : (rs5.map D.ref).length < sizeLine := by
    have := paired_len g5
    rw [List.length_map]
    omega
  have e1' : G_law_names [.ref 3, .int 6] s0 = .ok (.ref n0) s1 := e1
  unfold G_law
  rw [bodyF_ap (n := 1) rfl, den_law_eq]
  simp only [List.map_cons, List.map_nil, List.length_cons, List.length_nil, List.cons_append, List.nil_append, Nat.reduceSub, Nat.reduceAdd, List.reduceReplicate]
  simp only [dSeq_ap, dAsg_ap, dCall_ap, dCons_ap, dNil_ap, dVar_ap, dC_ap, List.getElem?_cons_zero, List.getElem?_cons_succ, List.set_cons_zero, List.set_cons_succ, DRes.bind_ok, e0, toS_ok, andThen_nx, e1', e2, e3, dLc_ap, dISeq_ap, A3, e5, ← ht4, e6, dIfS_ap, dB_ap, dOp_ap, e7, ofO_some, Bool.false_eq_true, if_false, dSkip_ap, dFor_ap, n55, e8, dExpr_ap, dApp_ap, n56, dLst_ap, mk, n57, if_pos hl5, ← hs7, e9]
end K10

set_option Elab.async false
set_option linter.all false
set_option maxRecDepth 100000
set_option maxHeartbeats 4000000
namespace K10
open PySem PySem.Spec PyProof.Rows L2 FW
def tb (K : PySem.W.Frag) (C0 : Addr) : Tb := ⟨K, [C0], [(PySem.Str.ofString "groups")], by decide +kernel⟩
def spLaw (K : PySem.W.Frag) : Sp := fun vs H Q _ => ∃ (a : Addr) (ns : List Int), vs = [.ref a] ∧ Only H ∧ SqL K H a (ns.map V.int) ∧ ns.length ≤ 63 ∧ ∀ H', Q (.bl true) H'
theorem sp_law {K : PySem.W.Frag} {C0 : Addr} {vs : List V} {H : Hp} {Q : VK} {E : XK} (h : spLaw K vs H Q E) : spR (tb K C0) G_law vs H Q E := by
  obtain ⟨a, ns, rfl, hO, hS, hl, k⟩ := h
  obtain ⟨st, e⟩ := law_plain ns hl
  refine ⟨[], [.scr ns], [], ⟨rfl, fun i o b e1 e2 => by simp at e1, fun i j b e1 e2 => by simp at e1⟩, RVs.one (by simp only [RV]; exact ⟨a, rfl, script_rv hO hS⟩), ?_⟩
  rw [e]
  intro μ' v H' s x r
  simp only [RV] at r
  subst r
  exact k H'
theorem all_mk {l : PySem.W.OpenLaw} {w : World} {K : PySem.W.Frag} {h : Heap} {mg : Str → Option Value} {fa : Addr} (X0 : K.In h) (G0 : h.Ns mainGlobals mg) (hfa : mg "law" = some (.ref fa))
    {C0 : Addr} {oi_f oi_r : Option Value} {oi_g : Addr} {ri_g : Addr} {f_law_source : Addr} {od_law_source an_law_source : Option Addr} {sl_law_source : Array (Option Value)} {oc_law_source kV_law_source dc_law_source pm_law_source cd_law_source ct_law_source : Value} {f_law_draw : Addr} {od_law_draw an_law_draw : Option Addr} {sl_law_draw : Array (Option Value)} {oc_law_draw kV_law_draw dc_law_draw pm_law_draw cd_law_draw ct_law_draw : Value} {f_law_names : Addr} {od_law_names an_law_names : Option Addr} {sl_law_names : Array (Option Value)} {oc_law_names kV_law_names dc_law_names pm_law_names cd_law_names ct_law_names : Value} {f_law_groups : Addr} {od_law_groups an_law_groups : Option Addr} {sl_law_groups : Array (Option Value)} {oc_law_groups kV_law_groups dc_law_groups pm_law_groups cd_law_groups ct_law_groups : Value} {f_Plan_d_initd_ : Addr} {od_Plan_d_initd_ an_Plan_d_initd_ : Option Addr} {sl_Plan_d_initd_ : Array (Option Value)} {oc_Plan_d_initd_ kV_Plan_d_initd_ dc_Plan_d_initd_ pm_Plan_d_initd_ cd_Plan_d_initd_ ct_Plan_d_initd_ : Value} {f_Plan_d_addd_ : Addr} {od_Plan_d_addd_ an_Plan_d_addd_ : Option Addr} {sl_Plan_d_addd_ : Array (Option Value)} {oc_Plan_d_addd_ kV_Plan_d_addd_ dc_Plan_d_addd_ pm_Plan_d_addd_ cd_Plan_d_addd_ ct_Plan_d_addd_ : Value} {f_law_plan : Addr} {od_law_plan an_law_plan : Option Addr} {sl_law_plan : Array (Option Value)} {oc_law_plan kV_law_plan dc_law_plan pm_law_plan cd_law_plan ct_law_plan : Value} {f_Plan_d_eqd_ : Addr} {od_Plan_d_eqd_ an_Plan_d_eqd_ : Option Addr} {sl_Plan_d_eqd_ : Array (Option Value)} {oc_Plan_d_eqd_ kV_Plan_d_eqd_ dc_Plan_d_eqd_ pm_Plan_d_eqd_ cd_Plan_d_eqd_ ct_Plan_d_eqd_ : Value} {f_Plan_d_iterd_ : Addr} {od_Plan_d_iterd_ an_Plan_d_iterd_ : Option Addr} {sl_Plan_d_iterd_ : Array (Option Value)} {oc_Plan_d_iterd_ kV_Plan_d_iterd_ dc_Plan_d_iterd_ pm_Plan_d_iterd_ cd_Plan_d_iterd_ ct_Plan_d_iterd_ : Value} {f_Plan_d_lend_ : Addr} {od_Plan_d_lend_ an_Plan_d_lend_ : Option Addr} {sl_Plan_d_lend_ : Array (Option Value)} {oc_Plan_d_lend_ kV_Plan_d_lend_ dc_Plan_d_lend_ pm_Plan_d_lend_ cd_Plan_d_lend_ ct_Plan_d_lend_ : Value} {f_Plan_walks : Addr} {od_Plan_walks an_Plan_walks : Option Addr} {sl_Plan_walks : Array (Option Value)} {oc_Plan_walks kV_Plan_walks dc_Plan_walks pm_Plan_walks cd_Plan_walks ct_Plan_walks : Value} {p_Plan_walks : Addr} {rs_Plan_walks : List Value} {f_Plan_d_containsd_ : Addr} {od_Plan_d_containsd_ an_Plan_d_containsd_ : Option Addr} {sl_Plan_d_containsd_ : Array (Option Value)} {oc_Plan_d_containsd_ kV_Plan_d_containsd_ dc_Plan_d_containsd_ pm_Plan_d_containsd_ cd_Plan_d_containsd_ ct_Plan_d_containsd_ : Value} {f_Plan_d_strd_ : Addr} {od_Plan_d_strd_ an_Plan_d_strd_ : Option Addr} {sl_Plan_d_strd_ : Array (Option Value)} {oc_Plan_d_strd_ kV_Plan_d_strd_ dc_Plan_d_strd_ pm_Plan_d_strd_ cd_Plan_d_strd_ ct_Plan_d_strd_ : Value} {f_law_is : Addr} {od_law_is an_law_is : Option Addr} {sl_law_is : Array (Option Value)} {oc_law_is kV_law_is dc_law_is pm_law_is cd_law_is ct_law_is : Value} {f_Plan_d_ord_ : Addr} {od_Plan_d_ord_ an_Plan_d_ord_ : Option Addr} {sl_Plan_d_ord_ : Array (Option Value)} {oc_Plan_d_ord_ kV_Plan_d_ord_ dc_Plan_d_ord_ pm_Plan_d_ord_ cd_Plan_d_ord_ ct_Plan_d_ord_ : Value} {f_Plan_d_muld_ : Addr} {od_Plan_d_muld_ an_Plan_d_muld_ : Option Addr} {sl_Plan_d_muld_ : Array (Option Value)} {oc_Plan_d_muld_ kV_Plan_d_muld_ dc_Plan_d_muld_ pm_Plan_d_muld_ cd_Plan_d_muld_ ct_Plan_d_muld_ : Value} {f_Plan_d_rmuld_ : Addr} {od_Plan_d_rmuld_ an_Plan_d_rmuld_ : Option Addr} {sl_Plan_d_rmuld_ : Array (Option Value)} {oc_Plan_d_rmuld_ kV_Plan_d_rmuld_ dc_Plan_d_rmuld_ pm_Plan_d_rmuld_ cd_Plan_d_rmuld_ ct_Plan_d_rmuld_ : Value} {f_Plan_apart : Addr} {od_Plan_apart an_Plan_apart : Option Addr} {sl_Plan_apart : Array (Option Value)} {oc_Plan_apart kV_Plan_apart dc_Plan_apart pm_Plan_apart cd_Plan_apart ct_Plan_apart : Value} {p_Plan_apart : Addr} {rs_Plan_apart : List Value} {f_law_apart : Addr} {od_law_apart an_law_apart : Option Addr} {sl_law_apart : Array (Option Value)} {oc_law_apart kV_law_apart dc_law_apart pm_law_apart cd_law_apart ct_law_apart : Value} {f_Plan_together : Addr} {od_Plan_together an_Plan_together : Option Addr} {sl_Plan_together : Array (Option Value)} {oc_Plan_together kV_Plan_together dc_Plan_together pm_Plan_together cd_Plan_together ct_Plan_together : Value} {p_Plan_together : Addr} {rs_Plan_together : List Value} {f_law_together : Addr} {od_law_together an_law_together : Option Addr} {sl_law_together : Array (Option Value)} {oc_law_together kV_law_together dc_law_together pm_law_together cd_law_together ct_law_together : Value} {f_law : Addr} {od_law an_law : Option Addr} {sl_law : Array (Option Value)} {oc_law kV_law dc_law pm_law cd_law ct_law : Value}
    (aC0 : PySem.W.nsIn K mainGlobals (PySem.Str.ofString "Plan") = some (some (.ref C0)))
    (pg0 : PySem.W.plainGet K C0 Str.empty = true)
    (hd0 : PySem.W.hasDictIn K C0 = true)
    (po0 : PySem.W.plainOver K C0 = true)
    (sa0 : PySem.W.findIn K (.ref C0) "__setattr__" = some (some (.builtin "object.__setattr__")))
    (mk0 : PySem.W.makesIn K C0 = true)
    (kc0 : PySem.W.keepIn K (.ref C0) = true)
    (z_int : PySem.W.nsIn K mainGlobals (PySem.Str.ofString "int") = some none)
    (z_sum : PySem.W.nsIn K mainGlobals (PySem.Str.ofString "sum") = some none)
    (z_len : PySem.W.nsIn K mainGlobals (PySem.Str.ofString "len") = some none)
    (z_range : PySem.W.nsIn K mainGlobals (PySem.Str.ofString "range") = some none)
    (z_tuple : PySem.W.nsIn K mainGlobals (PySem.Str.ofString "tuple") = some none)
    (rna_0_0 : PySem.W.findIn K (.ref C0) (PySem.Str.ofString "groups") = some none)
    (rsf_0 : PySem.W.selfFirst K C0 = true)
    (is1_0 : PySem.W.findIn K (.ref C0) "__class__" = some (some (.builtin "object.__class__")))
    (is3_0 : PySem.W.mroIn K C0 (.type "object") = some true)
    (is5_0 : PySem.W.specialIn K (.builtin "object.__class__") "__get__" = some (some (.builtin "getset_descriptor.__get__")))
    (is6_0 : PySem.W.takesIn K (.builtin "object.__class__") = some true)
    (z_isinstance : PySem.W.nsIn K mainGlobals (PySem.Str.ofString "isinstance") = some none)
    (z_list : PySem.W.nsIn K mainGlobals (PySem.Str.ofString "list") = some none)
    (z_str : PySem.W.nsIn K mainGlobals (PySem.Str.ofString "str") = some none)
    (rnf_0 : PySem.W.notFirst K C0 (.ref C0) = true)
    (z_bool : PySem.W.nsIn K mainGlobals (PySem.Str.ofString "bool") = some none)
    (oi1 : PySem.W.selfFirst K C0 = true)
    (oi2 : PySem.W.findIn K (.ref C0) (dunderR "mul") = some (some (.ref oi_g)))
    (oi3 : PySem.W.findIn K (.type "int") (PySem.dunder "mul") = some oi_f)
    (oi4 : PySem.W.findIn K (.type "int") (dunderR "mul") = some oi_r)
    (oi5 : PySem.W.subIn K (.type "int") (.ref C0) = some false)
    (ri1 : PySem.W.selfFirst K C0 = true)
    (ri2 : PySem.W.findIn K (.ref C0) (PySem.dunder "mul") = some (some (.ref ri_g)))
    (ri3 : PySem.W.subIn K (.ref C0) (.type "int") = some false)
    (l_law_source : K.lookup f_law_source = some ⟨oc_law_source, od_law_source, .func (PySem.W.fnOf (PySem.Str.ofString "_law_source") (PySem.Str.ofString "_law_source") (defArgs st_law_source) (defBody st_law_source) (defScope st_law_source) .none kV_law_source dc_law_source pm_law_source an_law_source cd_law_source ct_law_source), sl_law_source⟩)
    (c_law_source : PySem.W.codeIn K cd_law_source (PySem.Str.ofString "_law_source") = true)
    (k_law_source : PySem.W.keepIn K (.ref f_law_source) = true)
    (a_law_source : PySem.W.nsIn K mainGlobals (PySem.Str.ofString "_law_source") = some (some (.ref f_law_source)))
    (l_law_draw : K.lookup f_law_draw = some ⟨oc_law_draw, od_law_draw, .func (PySem.W.fnOf (PySem.Str.ofString "_law_draw") (PySem.Str.ofString "_law_draw") (defArgs st_law_draw) (defBody st_law_draw) (defScope st_law_draw) .none kV_law_draw dc_law_draw pm_law_draw an_law_draw cd_law_draw ct_law_draw), sl_law_draw⟩)
    (c_law_draw : PySem.W.codeIn K cd_law_draw (PySem.Str.ofString "_law_draw") = true)
    (k_law_draw : PySem.W.keepIn K (.ref f_law_draw) = true)
    (a_law_draw : PySem.W.nsIn K mainGlobals (PySem.Str.ofString "_law_draw") = some (some (.ref f_law_draw)))
    (l_law_names : K.lookup f_law_names = some ⟨oc_law_names, od_law_names, .func (PySem.W.fnOf (PySem.Str.ofString "_law_names") (PySem.Str.ofString "_law_names") (defArgs st_law_names) (defBody st_law_names) (defScope st_law_names) .none kV_law_names dc_law_names pm_law_names an_law_names cd_law_names ct_law_names), sl_law_names⟩)
    (c_law_names : PySem.W.codeIn K cd_law_names (PySem.Str.ofString "_law_names") = true)
    (k_law_names : PySem.W.keepIn K (.ref f_law_names) = true)
    (a_law_names : PySem.W.nsIn K mainGlobals (PySem.Str.ofString "_law_names") = some (some (.ref f_law_names)))
    (l_law_groups : K.lookup f_law_groups = some ⟨oc_law_groups, od_law_groups, .func (PySem.W.fnOf (PySem.Str.ofString "_law_groups") (PySem.Str.ofString "_law_groups") (defArgs st_law_groups) (defBody st_law_groups) (defScope st_law_groups) .none kV_law_groups dc_law_groups pm_law_groups an_law_groups cd_law_groups ct_law_groups), sl_law_groups⟩)
    (c_law_groups : PySem.W.codeIn K cd_law_groups (PySem.Str.ofString "_law_groups") = true)
    (k_law_groups : PySem.W.keepIn K (.ref f_law_groups) = true)
    (a_law_groups : PySem.W.nsIn K mainGlobals (PySem.Str.ofString "_law_groups") = some (some (.ref f_law_groups)))
    (l_Plan_d_initd_ : K.lookup f_Plan_d_initd_ = some ⟨oc_Plan_d_initd_, od_Plan_d_initd_, .func (PySem.W.fnOf (PySem.Str.ofString "__init__") (PySem.Str.ofString "Plan.__init__") (defArgs st_Plan_d_initd_) (defBody st_Plan_d_initd_) (defScope st_Plan_d_initd_) .none kV_Plan_d_initd_ dc_Plan_d_initd_ pm_Plan_d_initd_ an_Plan_d_initd_ cd_Plan_d_initd_ ct_Plan_d_initd_), sl_Plan_d_initd_⟩)
    (c_Plan_d_initd_ : PySem.W.codeIn K cd_Plan_d_initd_ (PySem.Str.ofString "Plan.__init__") = true)
    (k_Plan_d_initd_ : PySem.W.keepIn K (.ref f_Plan_d_initd_) = true)
    (a_Plan_d_initd_ : PySem.W.findIn K (.ref C0) (PySem.Str.ofString "__init__") = some (some (.ref f_Plan_d_initd_)))
    (i_Plan_d_initd_ : PySem.W.isFn K (.ref f_Plan_d_initd_) = true)
    (l_Plan_d_addd_ : K.lookup f_Plan_d_addd_ = some ⟨oc_Plan_d_addd_, od_Plan_d_addd_, .func (PySem.W.fnOf (PySem.Str.ofString "__add__") (PySem.Str.ofString "Plan.__add__") (defArgs st_Plan_d_addd_) (defBody st_Plan_d_addd_) (defScope st_Plan_d_addd_) .none kV_Plan_d_addd_ dc_Plan_d_addd_ pm_Plan_d_addd_ an_Plan_d_addd_ cd_Plan_d_addd_ ct_Plan_d_addd_), sl_Plan_d_addd_⟩)
    (c_Plan_d_addd_ : PySem.W.codeIn K cd_Plan_d_addd_ (PySem.Str.ofString "Plan.__add__") = true)
    (k_Plan_d_addd_ : PySem.W.keepIn K (.ref f_Plan_d_addd_) = true)
    (a_Plan_d_addd_ : PySem.W.findIn K (.ref C0) (PySem.Str.ofString "__add__") = some (some (.ref f_Plan_d_addd_)))
    (i_Plan_d_addd_ : PySem.W.isFn K (.ref f_Plan_d_addd_) = true)
    (l_law_plan : K.lookup f_law_plan = some ⟨oc_law_plan, od_law_plan, .func (PySem.W.fnOf (PySem.Str.ofString "_law_plan") (PySem.Str.ofString "_law_plan") (defArgs st_law_plan) (defBody st_law_plan) (defScope st_law_plan) .none kV_law_plan dc_law_plan pm_law_plan an_law_plan cd_law_plan ct_law_plan), sl_law_plan⟩)
    (c_law_plan : PySem.W.codeIn K cd_law_plan (PySem.Str.ofString "_law_plan") = true)
    (k_law_plan : PySem.W.keepIn K (.ref f_law_plan) = true)
    (a_law_plan : PySem.W.nsIn K mainGlobals (PySem.Str.ofString "_law_plan") = some (some (.ref f_law_plan)))
    (l_Plan_d_eqd_ : K.lookup f_Plan_d_eqd_ = some ⟨oc_Plan_d_eqd_, od_Plan_d_eqd_, .func (PySem.W.fnOf (PySem.Str.ofString "__eq__") (PySem.Str.ofString "Plan.__eq__") (defArgs st_Plan_d_eqd_) (defBody st_Plan_d_eqd_) (defScope st_Plan_d_eqd_) .none kV_Plan_d_eqd_ dc_Plan_d_eqd_ pm_Plan_d_eqd_ an_Plan_d_eqd_ cd_Plan_d_eqd_ ct_Plan_d_eqd_), sl_Plan_d_eqd_⟩)
    (c_Plan_d_eqd_ : PySem.W.codeIn K cd_Plan_d_eqd_ (PySem.Str.ofString "Plan.__eq__") = true)
    (k_Plan_d_eqd_ : PySem.W.keepIn K (.ref f_Plan_d_eqd_) = true)
    (a_Plan_d_eqd_ : PySem.W.findIn K (.ref C0) (PySem.Str.ofString "__eq__") = some (some (.ref f_Plan_d_eqd_)))
    (i_Plan_d_eqd_ : PySem.W.isFn K (.ref f_Plan_d_eqd_) = true)
    (l_Plan_d_iterd_ : K.lookup f_Plan_d_iterd_ = some ⟨oc_Plan_d_iterd_, od_Plan_d_iterd_, .func (PySem.W.fnOf (PySem.Str.ofString "__iter__") (PySem.Str.ofString "Plan.__iter__") (defArgs st_Plan_d_iterd_) (defBody st_Plan_d_iterd_) (defScope st_Plan_d_iterd_) .none kV_Plan_d_iterd_ dc_Plan_d_iterd_ pm_Plan_d_iterd_ an_Plan_d_iterd_ cd_Plan_d_iterd_ ct_Plan_d_iterd_), sl_Plan_d_iterd_⟩)
    (c_Plan_d_iterd_ : PySem.W.codeIn K cd_Plan_d_iterd_ (PySem.Str.ofString "Plan.__iter__") = true)
    (k_Plan_d_iterd_ : PySem.W.keepIn K (.ref f_Plan_d_iterd_) = true)
    (a_Plan_d_iterd_ : PySem.W.findIn K (.ref C0) (PySem.Str.ofString "__iter__") = some (some (.ref f_Plan_d_iterd_)))
    (i_Plan_d_iterd_ : PySem.W.isFn K (.ref f_Plan_d_iterd_) = true)
    (z_iter : PySem.W.nsIn K mainGlobals "iter" = some none)
    (l_Plan_d_lend_ : K.lookup f_Plan_d_lend_ = some ⟨oc_Plan_d_lend_, od_Plan_d_lend_, .func (PySem.W.fnOf (PySem.Str.ofString "__len__") (PySem.Str.ofString "Plan.__len__") (defArgs st_Plan_d_lend_) (defBody st_Plan_d_lend_) (defScope st_Plan_d_lend_) .none kV_Plan_d_lend_ dc_Plan_d_lend_ pm_Plan_d_lend_ an_Plan_d_lend_ cd_Plan_d_lend_ ct_Plan_d_lend_), sl_Plan_d_lend_⟩)
    (c_Plan_d_lend_ : PySem.W.codeIn K cd_Plan_d_lend_ (PySem.Str.ofString "Plan.__len__") = true)
    (k_Plan_d_lend_ : PySem.W.keepIn K (.ref f_Plan_d_lend_) = true)
    (a_Plan_d_lend_ : PySem.W.findIn K (.ref C0) (PySem.Str.ofString "__len__") = some (some (.ref f_Plan_d_lend_)))
    (i_Plan_d_lend_ : PySem.W.isFn K (.ref f_Plan_d_lend_) = true)
    (l_Plan_walks : K.lookup f_Plan_walks = some ⟨oc_Plan_walks, od_Plan_walks, .func (PySem.W.fnOf (PySem.Str.ofString "walks") (PySem.Str.ofString "Plan.walks") (defArgs st_Plan_walks) (defBody st_Plan_walks) (defScope st_Plan_walks) .none kV_Plan_walks dc_Plan_walks pm_Plan_walks an_Plan_walks cd_Plan_walks ct_Plan_walks), sl_Plan_walks⟩)
    (c_Plan_walks : PySem.W.codeIn K cd_Plan_walks (PySem.Str.ofString "Plan.walks") = true)
    (k_Plan_walks : PySem.W.keepIn K (.ref f_Plan_walks) = true)
    (a_Plan_walks : PySem.W.findIn K (.ref C0) (PySem.Str.ofString "walks") = some (some (.ref p_Plan_walks)))
    (g_Plan_walks : PySem.W.specialIn K (.ref p_Plan_walks) "__get__" = some (some (.builtin "property.__get__")))
    (t_Plan_walks : PySem.W.takesIn K (.ref p_Plan_walks) = some true)
    (r_Plan_walks : PySem.W.recIn K p_Plan_walks "property" = some (.ref f_Plan_walks :: rs_Plan_walks))
    (l_Plan_d_containsd_ : K.lookup f_Plan_d_containsd_ = some ⟨oc_Plan_d_containsd_, od_Plan_d_containsd_, .func (PySem.W.fnOf (PySem.Str.ofString "__contains__") (PySem.Str.ofString "Plan.__contains__") (defArgs st_Plan_d_containsd_) (defBody st_Plan_d_containsd_) (defScope st_Plan_d_containsd_) .none kV_Plan_d_containsd_ dc_Plan_d_containsd_ pm_Plan_d_containsd_ an_Plan_d_containsd_ cd_Plan_d_containsd_ ct_Plan_d_containsd_), sl_Plan_d_containsd_⟩)
    (c_Plan_d_containsd_ : PySem.W.codeIn K cd_Plan_d_containsd_ (PySem.Str.ofString "Plan.__contains__") = true)
    (k_Plan_d_containsd_ : PySem.W.keepIn K (.ref f_Plan_d_containsd_) = true)
    (a_Plan_d_containsd_ : PySem.W.findIn K (.ref C0) (PySem.Str.ofString "__contains__") = some (some (.ref f_Plan_d_containsd_)))
    (i_Plan_d_containsd_ : PySem.W.isFn K (.ref f_Plan_d_containsd_) = true)
    (l_Plan_d_strd_ : K.lookup f_Plan_d_strd_ = some ⟨oc_Plan_d_strd_, od_Plan_d_strd_, .func (PySem.W.fnOf (PySem.Str.ofString "__str__") (PySem.Str.ofString "Plan.__str__") (defArgs st_Plan_d_strd_) (defBody st_Plan_d_strd_) (defScope st_Plan_d_strd_) .none kV_Plan_d_strd_ dc_Plan_d_strd_ pm_Plan_d_strd_ an_Plan_d_strd_ cd_Plan_d_strd_ ct_Plan_d_strd_), sl_Plan_d_strd_⟩)
    (c_Plan_d_strd_ : PySem.W.codeIn K cd_Plan_d_strd_ (PySem.Str.ofString "Plan.__str__") = true)
    (k_Plan_d_strd_ : PySem.W.keepIn K (.ref f_Plan_d_strd_) = true)
    (a_Plan_d_strd_ : PySem.W.findIn K (.ref C0) (PySem.Str.ofString "__str__") = some (some (.ref f_Plan_d_strd_)))
    (i_Plan_d_strd_ : PySem.W.isFn K (.ref f_Plan_d_strd_) = true)
    (l_law_is : K.lookup f_law_is = some ⟨oc_law_is, od_law_is, .func (PySem.W.fnOf (PySem.Str.ofString "_law_is") (PySem.Str.ofString "_law_is") (defArgs st_law_is) (defBody st_law_is) (defScope st_law_is) .none kV_law_is dc_law_is pm_law_is an_law_is cd_law_is ct_law_is), sl_law_is⟩)
    (c_law_is : PySem.W.codeIn K cd_law_is (PySem.Str.ofString "_law_is") = true)
    (k_law_is : PySem.W.keepIn K (.ref f_law_is) = true)
    (a_law_is : PySem.W.nsIn K mainGlobals (PySem.Str.ofString "_law_is") = some (some (.ref f_law_is)))
    (l_Plan_d_ord_ : K.lookup f_Plan_d_ord_ = some ⟨oc_Plan_d_ord_, od_Plan_d_ord_, .func (PySem.W.fnOf (PySem.Str.ofString "__or__") (PySem.Str.ofString "Plan.__or__") (defArgs st_Plan_d_ord_) (defBody st_Plan_d_ord_) (defScope st_Plan_d_ord_) .none kV_Plan_d_ord_ dc_Plan_d_ord_ pm_Plan_d_ord_ an_Plan_d_ord_ cd_Plan_d_ord_ ct_Plan_d_ord_), sl_Plan_d_ord_⟩)
    (c_Plan_d_ord_ : PySem.W.codeIn K cd_Plan_d_ord_ (PySem.Str.ofString "Plan.__or__") = true)
    (k_Plan_d_ord_ : PySem.W.keepIn K (.ref f_Plan_d_ord_) = true)
    (a_Plan_d_ord_ : PySem.W.findIn K (.ref C0) (PySem.Str.ofString "__or__") = some (some (.ref f_Plan_d_ord_)))
    (i_Plan_d_ord_ : PySem.W.isFn K (.ref f_Plan_d_ord_) = true)
    (l_Plan_d_muld_ : K.lookup f_Plan_d_muld_ = some ⟨oc_Plan_d_muld_, od_Plan_d_muld_, .func (PySem.W.fnOf (PySem.Str.ofString "__mul__") (PySem.Str.ofString "Plan.__mul__") (defArgs st_Plan_d_muld_) (defBody st_Plan_d_muld_) (defScope st_Plan_d_muld_) .none kV_Plan_d_muld_ dc_Plan_d_muld_ pm_Plan_d_muld_ an_Plan_d_muld_ cd_Plan_d_muld_ ct_Plan_d_muld_), sl_Plan_d_muld_⟩)
    (c_Plan_d_muld_ : PySem.W.codeIn K cd_Plan_d_muld_ (PySem.Str.ofString "Plan.__mul__") = true)
    (k_Plan_d_muld_ : PySem.W.keepIn K (.ref f_Plan_d_muld_) = true)
    (a_Plan_d_muld_ : PySem.W.findIn K (.ref C0) (PySem.Str.ofString "__mul__") = some (some (.ref f_Plan_d_muld_)))
    (i_Plan_d_muld_ : PySem.W.isFn K (.ref f_Plan_d_muld_) = true)
    (l_Plan_d_rmuld_ : K.lookup f_Plan_d_rmuld_ = some ⟨oc_Plan_d_rmuld_, od_Plan_d_rmuld_, .func (PySem.W.fnOf (PySem.Str.ofString "__rmul__") (PySem.Str.ofString "Plan.__rmul__") (defArgs st_Plan_d_rmuld_) (defBody st_Plan_d_rmuld_) (defScope st_Plan_d_rmuld_) .none kV_Plan_d_rmuld_ dc_Plan_d_rmuld_ pm_Plan_d_rmuld_ an_Plan_d_rmuld_ cd_Plan_d_rmuld_ ct_Plan_d_rmuld_), sl_Plan_d_rmuld_⟩)
    (c_Plan_d_rmuld_ : PySem.W.codeIn K cd_Plan_d_rmuld_ (PySem.Str.ofString "Plan.__rmul__") = true)
    (k_Plan_d_rmuld_ : PySem.W.keepIn K (.ref f_Plan_d_rmuld_) = true)
    (a_Plan_d_rmuld_ : PySem.W.findIn K (.ref C0) (PySem.Str.ofString "__rmul__") = some (some (.ref f_Plan_d_rmuld_)))
    (i_Plan_d_rmuld_ : PySem.W.isFn K (.ref f_Plan_d_rmuld_) = true)
    (l_Plan_apart : K.lookup f_Plan_apart = some ⟨oc_Plan_apart, od_Plan_apart, .func (PySem.W.fnOf (PySem.Str.ofString "apart") (PySem.Str.ofString "Plan.apart") (defArgs st_Plan_apart) (defBody st_Plan_apart) (defScope st_Plan_apart) .none kV_Plan_apart dc_Plan_apart pm_Plan_apart an_Plan_apart cd_Plan_apart ct_Plan_apart), sl_Plan_apart⟩)
    (c_Plan_apart : PySem.W.codeIn K cd_Plan_apart (PySem.Str.ofString "Plan.apart") = true)
    (k_Plan_apart : PySem.W.keepIn K (.ref f_Plan_apart) = true)
    (rd0 : PySem.W.readsIn K C0 (.type "type") = true)
    (ga0 : PySem.W.specialIn K (.ref C0) "__getattribute__" = some (some (.builtin "type.__getattribute__")))
    (a_Plan_apart : PySem.W.findCls K (.ref C0) (.type "type") (PySem.Str.ofString "apart") = some (.get (.builtin "staticmethod.__get__") (.ref p_Plan_apart) .none (.ref C0)))
    (r_Plan_apart : PySem.W.recIn K p_Plan_apart "staticmethod" = some (.ref f_Plan_apart :: rs_Plan_apart))
    (l_law_apart : K.lookup f_law_apart = some ⟨oc_law_apart, od_law_apart, .func (PySem.W.fnOf (PySem.Str.ofString "_law_apart") (PySem.Str.ofString "_law_apart") (defArgs st_law_apart) (defBody st_law_apart) (defScope st_law_apart) .none kV_law_apart dc_law_apart pm_law_apart an_law_apart cd_law_apart ct_law_apart), sl_law_apart⟩)
    (c_law_apart : PySem.W.codeIn K cd_law_apart (PySem.Str.ofString "_law_apart") = true)
    (k_law_apart : PySem.W.keepIn K (.ref f_law_apart) = true)
    (a_law_apart : PySem.W.nsIn K mainGlobals (PySem.Str.ofString "_law_apart") = some (some (.ref f_law_apart)))
    (l_Plan_together : K.lookup f_Plan_together = some ⟨oc_Plan_together, od_Plan_together, .func (PySem.W.fnOf (PySem.Str.ofString "together") (PySem.Str.ofString "Plan.together") (defArgs st_Plan_together) (defBody st_Plan_together) (defScope st_Plan_together) .none kV_Plan_together dc_Plan_together pm_Plan_together an_Plan_together cd_Plan_together ct_Plan_together), sl_Plan_together⟩)
    (c_Plan_together : PySem.W.codeIn K cd_Plan_together (PySem.Str.ofString "Plan.together") = true)
    (k_Plan_together : PySem.W.keepIn K (.ref f_Plan_together) = true)
    (a_Plan_together : PySem.W.findCls K (.ref C0) (.type "type") (PySem.Str.ofString "together") = some (.get (.builtin "staticmethod.__get__") (.ref p_Plan_together) .none (.ref C0)))
    (r_Plan_together : PySem.W.recIn K p_Plan_together "staticmethod" = some (.ref f_Plan_together :: rs_Plan_together))
    (l_law_together : K.lookup f_law_together = some ⟨oc_law_together, od_law_together, .func (PySem.W.fnOf (PySem.Str.ofString "_law_together") (PySem.Str.ofString "_law_together") (defArgs st_law_together) (defBody st_law_together) (defScope st_law_together) .none kV_law_together dc_law_together pm_law_together an_law_together cd_law_together ct_law_together), sl_law_together⟩)
    (c_law_together : PySem.W.codeIn K cd_law_together (PySem.Str.ofString "_law_together") = true)
    (k_law_together : PySem.W.keepIn K (.ref f_law_together) = true)
    (a_law_together : PySem.W.nsIn K mainGlobals (PySem.Str.ofString "_law_together") = some (some (.ref f_law_together)))
    (l_law : K.lookup f_law = some ⟨oc_law, od_law, .func (PySem.W.fnOf (PySem.Str.ofString "law") (PySem.Str.ofString "law") (defArgs st_law) (defBody st_law) (defScope st_law) .none kV_law dc_law pm_law an_law cd_law ct_law), sl_law⟩)
    (c_law : PySem.W.codeIn K cd_law (PySem.Str.ofString "law") = true)
    (k_law : PySem.W.keepIn K (.ref f_law) = true)
    (a_law : PySem.W.nsIn K mainGlobals (PySem.Str.ofString "law") = some (some (.ref f_law))) :
    ∃ fd : FuncData, (∀ (s : Shared) (v : Value), BindsTo s fd ⟨[v], []⟩ [("_law_script", v)]) ∧ ∀ base : Heap, K.In base → base.Ns mainGlobals mg → FnOk l.prog w K mg base (L2.CX l.prog w) 5 fa fd ["_law_script"] (spLaw K) := by
  have e := hfa.symm.trans (PySem.W.mg_of X0 G0 a_law)
  cases e
  refine ⟨PySem.W.fnOf "law" "law" (defArgs st_law) (defBody st_law) (defScope st_law) .none kV_law dc_law pm_law an_law cd_law ct_law, fun s v => .of_eq rfl, fun base X G => ?hok⟩
  case hok =>
    have hC0 : (tb K C0).CT[0]? = some C0 := rfl
    have mC0 : mg (PySem.Str.ofString "Plan") = some (.ref C0) := PySem.W.mg_of X G aC0
    have cl0 : Cls K C0 := ⟨pg0, hd0, po0, sa0⟩
    have ft_0 : (tb K C0).FT[0]? = some (PySem.Str.ofString "groups") := rfl
    have m_int : mg (PySem.Str.ofString "int") = none := PySem.W.mg_none_of X G z_int
    have m_sum : mg (PySem.Str.ofString "sum") = none := PySem.W.mg_none_of X G z_sum
    have m_len : mg (PySem.Str.ofString "len") = none := PySem.W.mg_none_of X G z_len
    have m_range : mg (PySem.Str.ofString "range") = none := PySem.W.mg_none_of X G z_range
    have m_tuple : mg (PySem.Str.ofString "tuple") = none := PySem.W.mg_none_of X G z_tuple
    have na_0_0 : NaG (tb K C0) 0 0 (PySem.Str.ofString "groups") := ⟨C0, hC0, ft_0, rna_0_0⟩
    have sf_0 : SfG (tb K C0) 0 := ⟨C0, hC0, rsf_0⟩
    have is_0 : IsG (tb K C0) mg 0 (PySem.Str.ofString "Plan") true := ⟨C0, C0, hC0, ⟨is1_0, is5_0, is6_0, is3_0⟩, if_pos (beq_self_eq_true _), mC0⟩
    have m_isinstance : mg (PySem.Str.ofString "isinstance") = none := PySem.W.mg_none_of X G z_isinstance
    have m_list : mg (PySem.Str.ofString "list") = none := PySem.W.mg_none_of X G z_list
    have m_str : mg (PySem.Str.ofString "str") = none := PySem.W.mg_none_of X G z_str
    have nf_0 : NfG (tb K C0) 0 := ⟨C0, hC0, rnf_0⟩
    have m_bool : mg (PySem.Str.ofString "bool") = none := PySem.W.mg_none_of X G z_bool
    have oi_0 : OiG (tb K C0) 0 "mul" := ⟨C0, oi_f, oi_r, _, hC0, oi1, oi2, .inr ⟨oi_g, rfl⟩, oi3, oi4, oi5⟩
    have ri_0 : RiG (tb K C0) 0 := ⟨C0, ri_g, hC0, ri1, ri2, ri3⟩
    have F_law_source := fun_mk (st := st_law_source) l_law_source c_law_source k_law_source
    have h_law_source : FnG l.prog w (tb K C0) mg base 1 (PySem.Str.ofString "_law_source") G_law_source := fng_of F_law_source (PySem.W.mg_of X G a_law_source) sc_law_source (fun _ _ _ _ _ _ us hl => match us, hl with | [_], _ => rfl) (bx_law_source m_int m_sum)
    have F_law_draw := fun_mk (st := st_law_draw) l_law_draw c_law_draw k_law_draw
    have h_law_draw : FnG l.prog w (tb K C0) mg base 1 (PySem.Str.ofString "_law_draw") G_law_draw := fng_of F_law_draw (PySem.W.mg_of X G a_law_draw) sc_law_draw (fun _ _ _ _ _ _ us hl => match us, hl with | [_, _], _ => rfl) (bx_law_draw m_len m_int)
    have F_law_names := fun_mk (st := st_law_names) l_law_names c_law_names k_law_names
    have h_law_names : FnG l.prog w (tb K C0) mg base 2 (PySem.Str.ofString "_law_names") G_law_names := fng_of F_law_names (PySem.W.mg_of X G a_law_names) sc_law_names (fun _ _ _ _ _ _ us hl => match us, hl with | [_, _], _ => rfl) (bx_law_names h_law_draw m_range m_int)
    have F_law_groups := fun_mk (st := st_law_groups) l_law_groups c_law_groups k_law_groups
    have h_law_groups : FnG l.prog w (tb K C0) mg base 2 (PySem.Str.ofString "_law_groups") G_law_groups := fng_of F_law_groups (PySem.W.mg_of X G a_law_groups) sc_law_groups (fun _ _ _ _ _ _ us hl => match us, hl with | [_, _], _ => rfl) (bx_law_groups h_law_draw m_range m_len)
    have F_Plan_d_initd_ := fun_mk (st := st_Plan_d_initd_) l_Plan_d_initd_ c_Plan_d_initd_ k_Plan_d_initd_
    have h_Plan_d_initd_ : ClG l.prog w (tb K C0) mg base 1 0 (PySem.Str.ofString "Plan") G_Plan_d_initd_ := clg_ofS (ps := [(PySem.Str.ofString "self")]) (pv := (PySem.Str.ofString "groups")) F_Plan_d_initd_ hC0 mC0 cl0 mk0 kc0 a_Plan_d_initd_ i_Plan_d_initd_ sc_Plan_d_initd_ (bindS1 rfl) (bx_Plan_d_initd_ m_len m_tuple na_0_0)
    have F_Plan_d_addd_ := fun_mk (st := st_Plan_d_addd_) l_Plan_d_addd_ c_Plan_d_addd_ k_Plan_d_addd_
    have h_Plan_d_addd_ : MtG l.prog w (tb K C0) mg base 3 0 (PySem.Str.ofString "__add__") G_Plan_d_addd_ := mtg_of F_Plan_d_addd_ hC0 a_Plan_d_addd_ i_Plan_d_addd_ sc_Plan_d_addd_ (fun _ _ _ _ _ _ us hl => match us, hl with | [_, _], _ => rfl) (bx_Plan_d_addd_ h_Plan_d_initd_ ft_0)
    have F_law_plan := fun_mk (st := st_law_plan) l_law_plan c_law_plan k_law_plan
    have h_law_plan : FnG l.prog w (tb K C0) mg base 4 (PySem.Str.ofString "_law_plan") G_law_plan := fng_of F_law_plan (PySem.W.mg_of X G a_law_plan) sc_law_plan (fun _ _ _ _ _ _ us hl => match us, hl with | [_], _ => rfl) (bx_law_plan m_len h_Plan_d_initd_ m_tuple h_Plan_d_addd_ sf_0)
    have F_Plan_d_eqd_ := fun_mk (st := st_Plan_d_eqd_) l_Plan_d_eqd_ c_Plan_d_eqd_ k_Plan_d_eqd_
    have h_Plan_d_eqd_ : MtG l.prog w (tb K C0) mg base 1 0 (PySem.Str.ofString "__eq__") G_Plan_d_eqd_ := mtg_of F_Plan_d_eqd_ hC0 a_Plan_d_eqd_ i_Plan_d_eqd_ sc_Plan_d_eqd_ (fun _ _ _ _ _ _ us hl => match us, hl with | [_, _], _ => rfl) (bx_Plan_d_eqd_ is_0 m_isinstance ft_0)
    have F_Plan_d_iterd_ := fun_mk (st := st_Plan_d_iterd_) l_Plan_d_iterd_ c_Plan_d_iterd_ k_Plan_d_iterd_
    have h_Plan_d_iterd_ : ItG l.prog w (tb K C0) mg base 1 0 0 := itg_of F_Plan_d_iterd_ hC0 ft_0 a_Plan_d_iterd_ i_Plan_d_iterd_ sc_Plan_d_iterd_ (fun _ _ _ _ _ _ us hl => match us, hl with | [_], _ => rfl) (PySem.W.mg_none_of X G z_iter) rfl rfl
    have F_Plan_d_lend_ := fun_mk (st := st_Plan_d_lend_) l_Plan_d_lend_ c_Plan_d_lend_ k_Plan_d_lend_
    have h_Plan_d_lend_ : MtG l.prog w (tb K C0) mg base 1 0 (PySem.Str.ofString "__len__") G_Plan_d_lend_ := mtg_of F_Plan_d_lend_ hC0 a_Plan_d_lend_ i_Plan_d_lend_ sc_Plan_d_lend_ (fun _ _ _ _ _ _ us hl => match us, hl with | [_], _ => rfl) (bx_Plan_d_lend_ ft_0 m_len)
    have F_Plan_walks := fun_mk (st := st_Plan_walks) l_Plan_walks c_Plan_walks k_Plan_walks
    have h_Plan_walks : PrG l.prog w (tb K C0) mg base 1 0 (PySem.Str.ofString "walks") G_Plan_walks := prg_of F_Plan_walks hC0 a_Plan_walks g_Plan_walks t_Plan_walks r_Plan_walks sc_Plan_walks (fun _ _ _ _ _ _ us hl => match us, hl with | [_], _ => rfl) (bx_Plan_walks ft_0 m_tuple)
    have F_Plan_d_containsd_ := fun_mk (st := st_Plan_d_containsd_) l_Plan_d_containsd_ c_Plan_d_containsd_ k_Plan_d_containsd_
    have h_Plan_d_containsd_ : MtG l.prog w (tb K C0) mg base 3 0 (PySem.Str.ofString "__contains__") G_Plan_d_containsd_ := mtg_of F_Plan_d_containsd_ hC0 a_Plan_d_containsd_ i_Plan_d_containsd_ sc_Plan_d_containsd_ (fun _ _ _ _ _ _ us hl => match us, hl with | [_, _], _ => rfl) (bx_Plan_d_containsd_ h_Plan_walks)
    have F_Plan_d_strd_ := fun_mk (st := st_Plan_d_strd_) l_Plan_d_strd_ c_Plan_d_strd_ k_Plan_d_strd_
    have h_Plan_d_strd_ : MtG l.prog w (tb K C0) mg base 1 0 (PySem.Str.ofString "__str__") G_Plan_d_strd_ := mtg_of F_Plan_d_strd_ hC0 a_Plan_d_strd_ i_Plan_d_strd_ sc_Plan_d_strd_ (fun _ _ _ _ _ _ us hl => match us, hl with | [_], _ => rfl) (bx_Plan_d_strd_ ft_0)
    have F_law_is := fun_mk (st := st_law_is) l_law_is c_law_is k_law_is
    have h_law_is : FnG l.prog w (tb K C0) mg base 4 (PySem.Str.ofString "_law_is") G_law_is := fng_of F_law_is (PySem.W.mg_of X G a_law_is) sc_law_is (fun _ _ _ _ _ _ us hl => match us, hl with | [_, _, _], _ => rfl) (bx_law_is m_len m_tuple m_list h_Plan_d_iterd_ h_Plan_d_lend_ h_Plan_walks h_Plan_d_containsd_ h_Plan_d_strd_ m_str)
    have F_Plan_d_ord_ := fun_mk (st := st_Plan_d_ord_) l_Plan_d_ord_ c_Plan_d_ord_ k_Plan_d_ord_
    have h_Plan_d_ord_ : MtG l.prog w (tb K C0) mg base 3 0 (PySem.Str.ofString "__or__") G_Plan_d_ord_ := mtg_of F_Plan_d_ord_ hC0 a_Plan_d_ord_ i_Plan_d_ord_ sc_Plan_d_ord_ (fun _ _ _ _ _ _ us hl => match us, hl with | [_, _], _ => rfl) (bx_Plan_d_ord_ h_Plan_d_initd_ h_Plan_walks)
    have F_Plan_d_muld_ := fun_mk (st := st_Plan_d_muld_) l_Plan_d_muld_ c_Plan_d_muld_ k_Plan_d_muld_
    have h_Plan_d_muld_ : MtG l.prog w (tb K C0) mg base 3 0 (PySem.Str.ofString "__mul__") G_Plan_d_muld_ := mtg_of F_Plan_d_muld_ hC0 a_Plan_d_muld_ i_Plan_d_muld_ sc_Plan_d_muld_ (fun _ _ _ _ _ _ us hl => match us, hl with | [_, _], _ => rfl) (bx_Plan_d_muld_ ft_0 h_Plan_d_initd_)
    have F_Plan_d_rmuld_ := fun_mk (st := st_Plan_d_rmuld_) l_Plan_d_rmuld_ c_Plan_d_rmuld_ k_Plan_d_rmuld_
    have h_Plan_d_rmuld_ : MtG l.prog w (tb K C0) mg base 3 0 (PySem.Str.ofString "__rmul__") G_Plan_d_rmuld_ := mtg_of F_Plan_d_rmuld_ hC0 a_Plan_d_rmuld_ i_Plan_d_rmuld_ sc_Plan_d_rmuld_ (fun _ _ _ _ _ _ us hl => match us, hl with | [_, _], _ => rfl) (bx_Plan_d_rmuld_ ft_0 h_Plan_d_initd_)
    have F_Plan_apart := fun_mk (st := st_Plan_apart) l_Plan_apart c_Plan_apart k_Plan_apart
    have h_Plan_apart : SmG l.prog w (tb K C0) mg base 3 (PySem.Str.ofString "Plan") (PySem.Str.ofString "apart") G_Plan_apart := smg_ofS (ps := []) (pv := (PySem.Str.ofString "names")) F_Plan_apart mC0 rd0 ga0 a_Plan_apart r_Plan_apart sc_Plan_apart (bindS0 rfl) (bx_Plan_apart h_Plan_d_initd_)
    have F_law_apart := fun_mk (st := st_law_apart) l_law_apart c_law_apart k_law_apart
    have h_law_apart : FnG l.prog w (tb K C0) mg base 4 (PySem.Str.ofString "_law_apart") G_law_apart := fng_of F_law_apart (PySem.W.mg_of X G a_law_apart) sc_law_apart (fun _ _ _ _ _ _ us hl => match us, hl with | [_], _ => rfl) (bx_law_apart m_len h_Plan_apart)
    have F_Plan_together := fun_mk (st := st_Plan_together) l_Plan_together c_Plan_together k_Plan_together
    have h_Plan_together : SmG l.prog w (tb K C0) mg base 3 (PySem.Str.ofString "Plan") (PySem.Str.ofString "together") G_Plan_together := smg_ofS (ps := []) (pv := (PySem.Str.ofString "names")) F_Plan_together mC0 rd0 ga0 a_Plan_together r_Plan_together sc_Plan_together (bindS0 rfl) (bx_Plan_together h_Plan_d_initd_)
    have F_law_together := fun_mk (st := st_law_together) l_law_together c_law_together k_law_together
    have h_law_together : FnG l.prog w (tb K C0) mg base 4 (PySem.Str.ofString "_law_together") G_law_together := fng_of F_law_together (PySem.W.mg_of X G a_law_together) sc_law_together (fun _ _ _ _ _ _ us hl => match us, hl with | [_], _ => rfl) (bx_law_together m_len h_Plan_together)
    have F_law := fun_mk (st := st_law) l_law c_law k_law
    exact (fnok_body F_law sc_law (bx_law h_law_source h_law_names h_law_groups m_list h_law_plan h_law_draw m_range m_len m_tuple h_Plan_d_eqd_ nf_0 m_isinstance m_bool h_law_is h_Plan_d_addd_ sf_0 h_Plan_d_ord_ h_Plan_d_muld_ oi_0 h_Plan_d_rmuld_ ri_0 h_law_apart h_law_together h_Plan_d_initd_)).imp fun vs H Q E h => sp_law h
theorem walk {l : PySem.W.OpenLaw} {q : Program} {loose : List Str} {XP : (Str → Option Value) → Heap → Prop} {YP : World → Heap → Prop} {d : DefRec} {K : Params → PySem.W.Frag} (hn : l.most = some 63) (hdf : d.params.defaults = [])
    (hY : ∀ (w : World) (h : Heap), YP w h → (K w.params).In h)
    (F : ∀ (w : World) (mg : Str → Option Value) (fa : Addr) (h : Heap), (K w.params).In h → h.Ns mainGlobals mg → mg d.name = some (.ref fa) →
      ∃ fd : FuncData, (∀ (s : Shared) (u : Value), BindsTo s fd ⟨[u], []⟩ [("_law_script", u)]) ∧ ∀ base : Heap, (K w.params).In base → base.Ns mainGlobals mg → FnOk l.prog w (K w.params) mg base (L2.CX l.prog w) 5 fa fd ["_law_script"] (spLaw (K w.params))) :
    PySem.W.WalkO q loose XP YP l.row.toRowW d [] (fun f vs => PySem.call f vs) :=
  L2.walk_of (n := 63) (k := 5) (x := "_law_script") (CX := fun w => L2.CX l.prog w) (sp := fun w => spLaw (K w.params)) hn (by decide) hdf ⟨rfl, by decide, by decide⟩ hY F (fun _ _ a ns hl hO hS => ⟨a, ns, rfl, hO, hS, hl, fun _ => rfl⟩) fun w H s e s' z => by
    obtain ⟨_, _, _, _, _, _, _, _, _, _, _, _, z⟩ := z
    exact z.elim
end K10
open PySem PySem.W PyProof.Rows
set_option maxRecDepth 100000 in
set_option maxHeartbeats 0 in
theorem PySem.Challenge.cw_fusewalks_k10_plan_groups_holds : PySem.Challenge.rw_fusewalks_k10_plan_groups.Holds := by
  w_on; o_law; k_head; (case hw => w_witness2)
  k_fill
  refine K10.walk (l := PySem.Challenge.rw_fusewalks_k10_plan_groups) rfl rfl (fun w h Y => PySem.W.kIn_of Y) ?F
  case F =>
    intro w mg fa h KX G hmg
    refine' K10.all_mk KX G hmg ?aC0 ?pg0 ?hd0 ?po0 ?sa0 ?mk0 ?kc0 ?z_int ?z_sum ?z_len ?z_range ?z_tuple ?rna_0_0 ?rsf_0 ?is1_0 ?is3_0 ?is5_0 ?is6_0 ?z_isinstance ?z_list ?z_str ?rnf_0 ?z_bool ?oi1 ?oi2 ?oi3 ?oi4 ?oi5 ?ri1 ?ri2 ?ri3 ?l_law_source ?c_law_source ?k_law_source ?a_law_source ?l_law_draw ?c_law_draw ?k_law_draw ?a_law_draw ?l_law_names ?c_law_names ?k_law_names ?a_law_names ?l_law_groups ?c_law_groups ?k_law_groups ?a_law_groups ?l_Plan_d_initd_ ?c_Plan_d_initd_ ?k_Plan_d_initd_ ?a_Plan_d_initd_ ?i_Plan_d_initd_ ?l_Plan_d_addd_ ?c_Plan_d_addd_ ?k_Plan_d_addd_ ?a_Plan_d_addd_ ?i_Plan_d_addd_ ?l_law_plan ?c_law_plan ?k_law_plan ?a_law_plan ?l_Plan_d_eqd_ ?c_Plan_d_eqd_ ?k_Plan_d_eqd_ ?a_Plan_d_eqd_ ?i_Plan_d_eqd_ ?l_Plan_d_iterd_ ?c_Plan_d_iterd_ ?k_Plan_d_iterd_ ?a_Plan_d_iterd_ ?i_Plan_d_iterd_ ?z_iter ?l_Plan_d_lend_ ?c_Plan_d_lend_ ?k_Plan_d_lend_ ?a_Plan_d_lend_ ?i_Plan_d_lend_ ?l_Plan_walks ?c_Plan_walks ?k_Plan_walks ?a_Plan_walks ?g_Plan_walks ?t_Plan_walks ?r_Plan_walks ?l_Plan_d_containsd_ ?c_Plan_d_containsd_ ?k_Plan_d_containsd_ ?a_Plan_d_containsd_ ?i_Plan_d_containsd_ ?l_Plan_d_strd_ ?c_Plan_d_strd_ ?k_Plan_d_strd_ ?a_Plan_d_strd_ ?i_Plan_d_strd_ ?l_law_is ?c_law_is ?k_law_is ?a_law_is ?l_Plan_d_ord_ ?c_Plan_d_ord_ ?k_Plan_d_ord_ ?a_Plan_d_ord_ ?i_Plan_d_ord_ ?l_Plan_d_muld_ ?c_Plan_d_muld_ ?k_Plan_d_muld_ ?a_Plan_d_muld_ ?i_Plan_d_muld_ ?l_Plan_d_rmuld_ ?c_Plan_d_rmuld_ ?k_Plan_d_rmuld_ ?a_Plan_d_rmuld_ ?i_Plan_d_rmuld_ ?l_Plan_apart ?c_Plan_apart ?k_Plan_apart ?rd0 ?ga0 ?a_Plan_apart ?r_Plan_apart ?l_law_apart ?c_law_apart ?k_law_apart ?a_law_apart ?l_Plan_together ?c_Plan_together ?k_Plan_together ?a_Plan_together ?r_Plan_together ?l_law_together ?c_law_together ?k_law_together ?a_law_together ?l_law ?c_law ?k_law ?a_law
    (case aC0 => k_is)
    (case a_law_source => k_is)
    (case a_law_draw => k_is)
    (case a_law_names => k_is)
    (case a_law_groups => k_is)
    (case a_Plan_d_initd_ => k_is)
    (case a_Plan_d_addd_ => k_is)
    (case a_law_plan => k_is)
    (case a_Plan_d_eqd_ => k_is)
    (case a_Plan_d_iterd_ => k_is)
    (case a_Plan_d_lend_ => k_is)
    (case a_Plan_walks => k_is)
    (case a_Plan_d_containsd_ => k_is)
    (case a_Plan_d_strd_ => k_is)
    (case a_law_is => k_is)
    (case a_Plan_d_ord_ => k_is)
    (case a_Plan_d_muld_ => k_is)
    (case a_Plan_d_rmuld_ => k_is)
    (case a_Plan_apart => k_is)
    (case a_law_apart => k_is)
    (case a_Plan_together => k_is)
    (case a_law_together => k_is)
    (case a_law => k_is)
    (case r_Plan_walks => k_is)
    (case r_Plan_apart => k_is)
    (case r_Plan_together => k_is)
    (case l_law_source => k_is)
    (case l_law_draw => k_is)
    (case l_law_names => k_is)
    (case l_law_groups => k_is)
    (case l_Plan_d_initd_ => k_is)
    (case l_Plan_d_addd_ => k_is)
    (case l_law_plan => k_is)
    (case l_Plan_d_eqd_ => k_is)
    (case l_Plan_d_iterd_ => k_is)
    (case l_Plan_d_lend_ => k_is)
    (case l_Plan_walks => k_is)
    (case l_Plan_d_containsd_ => k_is)
    (case l_Plan_d_strd_ => k_is)
    (case l_law_is => k_is)
    (case l_Plan_d_ord_ => k_is)
    (case l_Plan_d_muld_ => k_is)
    (case l_Plan_d_rmuld_ => k_is)
    (case l_Plan_apart => k_is)
    (case l_law_apart => k_is)
    (case l_Plan_together => k_is)
    (case l_law_together => k_is)
    (case l_law => k_is)
    (case pg0 => k_is)
    (case hd0 => k_is)
    (case po0 => k_is)
    (case sa0 => k_is)
    (case mk0 => k_is)
    (case kc0 => k_is)
    (case z_int => k_is)
    (case z_sum => k_is)
    (case z_len => k_is)
    (case z_range => k_is)
    (case z_tuple => k_is)
    (case rna_0_0 => k_is)
    (case rsf_0 => k_is)
    (case is1_0 => k_is)
    (case is3_0 => k_is)
    (case is5_0 => k_is)
    (case is6_0 => k_is)
    (case z_isinstance => k_is)
    (case z_list => k_is)
    (case z_str => k_is)
    (case rnf_0 => k_is)
    (case z_bool => k_is)
    (case oi1 => k_is)
    (case oi2 => k_is)
    (case oi3 => k_is)
    (case oi4 => k_is)
    (case oi5 => k_is)
    (case ri1 => k_is)
    (case ri2 => k_is)
    (case ri3 => k_is)
    (case c_law_source => k_is)
    (case k_law_source => k_is)
    (case c_law_draw => k_is)
    (case k_law_draw => k_is)
    (case c_law_names => k_is)
    (case k_law_names => k_is)
    (case c_law_groups => k_is)
    (case k_law_groups => k_is)
    (case c_Plan_d_initd_ => k_is)
    (case k_Plan_d_initd_ => k_is)
    (case i_Plan_d_initd_ => k_is)
    (case c_Plan_d_addd_ => k_is)
    (case k_Plan_d_addd_ => k_is)
    (case i_Plan_d_addd_ => k_is)
    (case c_law_plan => k_is)
    (case k_law_plan => k_is)
    (case c_Plan_d_eqd_ => k_is)
    (case k_Plan_d_eqd_ => k_is)
    (case i_Plan_d_eqd_ => k_is)
    (case c_Plan_d_iterd_ => k_is)
    (case k_Plan_d_iterd_ => k_is)
    (case i_Plan_d_iterd_ => k_is)
    (case z_iter => k_is)
    (case c_Plan_d_lend_ => k_is)
    (case k_Plan_d_lend_ => k_is)
    (case i_Plan_d_lend_ => k_is)
    (case c_Plan_walks => k_is)
    (case k_Plan_walks => k_is)
    (case g_Plan_walks => k_is)
    (case t_Plan_walks => k_is)
    (case c_Plan_d_containsd_ => k_is)
    (case k_Plan_d_containsd_ => k_is)
    (case i_Plan_d_containsd_ => k_is)
    (case c_Plan_d_strd_ => k_is)
    (case k_Plan_d_strd_ => k_is)
    (case i_Plan_d_strd_ => k_is)
    (case c_law_is => k_is)
    (case k_law_is => k_is)
    (case c_Plan_d_ord_ => k_is)
    (case k_Plan_d_ord_ => k_is)
    (case i_Plan_d_ord_ => k_is)
    (case c_Plan_d_muld_ => k_is)
    (case k_Plan_d_muld_ => k_is)
    (case i_Plan_d_muld_ => k_is)
    (case c_Plan_d_rmuld_ => k_is)
    (case k_Plan_d_rmuld_ => k_is)
    (case i_Plan_d_rmuld_ => k_is)
    (case c_Plan_apart => k_is)
    (case k_Plan_apart => k_is)
    (case rd0 => k_is)
    (case ga0 => k_is)
    (case c_law_apart => k_is)
    (case k_law_apart => k_is)
    (case c_Plan_together => k_is)
    (case k_Plan_together => k_is)
    (case c_law_together => k_is)
    (case k_law_together => k_is)
    (case c_law => k_is)
    (case k_law => k_is)
#print axioms PySem.Challenge.cw_fusewalks_k10_plan_groups_holds

