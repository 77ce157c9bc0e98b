import PyProof.Rows.All
import Wide.All
import OpenK.AllK
import Wide.FinOn
import HandS.ForMost
import HandS.ForExc
import HandS.EndTab
import KE.KDictKeyed
import HandS.Zip
import HandS.Deep
import HandS.Wide
import HandS.TupAny
import HandS.Style
import HandS.TupLe
import KE.SortData
import PyProof.StrOps2
import HandS.Dict
import HandS.Text
import KE.DataCmp
import PyProof.Rows.TupTab
import KE.KDictMeth
import PyProof.DictMoreH
import HandS.CallSlots
import HandS.IsInst
import KE.KDictPairs
import KE.SortKeyHeap
import HandS.SortKw
import PyProof.NeKinds
import PyProof.EqAt
import HandS.EndOwn
import KE.KNestM
import PySem.Challenge.RW_mowfloor_k11_all_runs
set_option Elab.async false
set_option linter.all false
set_option maxRecDepth 100000
set_option maxHeartbeats 4000000
/-! DL: a layer of data over HandS: tuples are values, what may change stands in a small heap. -/
namespace DL
open PySem PySem.Spec PyProof.Rows L2

inductive D where
  | non | bl (b : Bool) | int (i : Int) | str (x : Str) | tup (xs : List D) | rol (xs : List D) | ref (a : Addr) | ty (n : String)

mutual
def D.beq : D → D → Bool
  | .non, .non => true
  | .bl a, .bl b => a == b
  | .int a, .int b => decide (a = b)
  | .str a, .str b => decide (a = b)
  | .tup a, .tup b => D.beqs a b
  | .rol a, .rol b => D.beqs a b
  | .ref a, .ref b => decide (a = b)
  | .ty a, .ty b => decide (a = b)
  | _, _ => false
def D.beqs : List D → List D → Bool
  | [], [] => true
  | a :: as, b :: bs => D.beq a b && D.beqs as bs
  | _, _ => false
end
mutual
theorem D.beq_self : ∀ a : D, D.beq a a = true
  | .non => rfl
  | .bl b => by simp [D.beq]
  | .int b => by simp [D.beq]
  | .str b => by simp [D.beq]
  | .tup b => by rw [D.beq]; exact D.beqs_self b
  | .rol b => by rw [D.beq]; exact D.beqs_self b
  | .ref b => by simp [D.beq]
  | .ty b => by simp [D.beq]
theorem D.beqs_self : ∀ a : List D, D.beqs a a = true
  | [] => rfl
  | a :: as => by rw [D.beqs, D.beq_self a, D.beqs_self as]; rfl
end
mutual
theorem D.eq_of : ∀ a b : D, D.beq a b = true → a = b := fun a b h => by
  cases a with
  | tup x =>
    cases b with
    | tup y => rw [D.beq] at h; rw [D.eqs_of x y h]
    | _ => simp [D.beq] at h
  | rol x =>
    cases b with
    | rol y => rw [D.beq] at h; rw [D.eqs_of x y h]
    | _ => simp [D.beq] at h
  | _ => cases b <;> simp_all [D.beq]
theorem D.eqs_of : ∀ a b : List D, D.beqs a b = true → a = b
  | [], [], _ => rfl
  | a :: as, b :: bs, h => by
    rw [D.beqs, Bool.and_eq_true] at h
    rw [D.eq_of a b h.1, D.eqs_of as bs h.2]
  | [], _ :: _, h => by simp [D.beqs] at h
  | _ :: _, [], h => by simp [D.beqs] at h
end
instance : DecidableEq D := fun a b => if h : D.beq a b = true then Decidable.isTrue (D.eq_of a b h) else Decidable.isFalse fun e => h (e ▸ D.beq_self a)

/-! ### which value of the layer below stands for a datum -/
/-- a list that stands as it is -/
def RoL (K : PySem.W.Frag) (H : Hp) (a : Addr) (xs : List V) : Prop :=
  (∃ o, H a = some (.frz o (.lst xs))) ∨
    ∃ (o : Obj) (its : Array Value) (n : Nat), K.lookup a = some o ∧ o.cls = .type "list" ∧ o.dict = none ∧ o.data = .seq its n ∧ its.size ≤ sizeLine ∧ Vals xs its.toList
theorem RoL.sq {K : PySem.W.Frag} {H : Hp} {a : Addr} {xs : List V} (h : RoL K H a xs) : SqL K H a xs := h.elim (fun h => .inl (.inr h)) .inr
mutual
def Rep (K : PySem.W.Frag) (H : Hp) : D → V → Prop
  | .non, v => v = .non
  | .bl b, v => v = .bl b
  | .int i, v => v = .int i
  | .str x, v => v = .str x
  | .tup ds, v => ∃ a vs, v = .ref a ∧ SqT K H a vs ∧ Reps K H ds vs
  | .rol ds, v => ∃ a vs, v = .ref a ∧ RoL K H a vs ∧ Reps K H ds vs
  | .ref a, v => v = .ref a
  | .ty n, v => v = .ty n
def Reps (K : PySem.W.Frag) (H : Hp) : List D → List V → Prop
  | [], vs => vs = []
  | d :: ds, vs => ∃ v r, vs = v :: r ∧ Rep K H d v ∧ Reps K H ds r
end

/-- what may change, and what is read alone -/
inductive MO where
  | lst (ds : List D) | dct (kvs : List (D × D)) | dcn (kvs : List (D × D)) | ins (C : Addr) (fs : List (Str × D)) | tab (q : Str)
abbrev MH := Addr → Option MO
def mup (M : MH) (a : Addr) (o : MO) : MH := fun b => if b = a then some o else M b
theorem mup_same {M : MH} {a : Addr} {o : MO} : mup M a o a = some o := by unfold mup; rw [if_pos rfl]
theorem mup_ne {M : MH} {a b : Addr} {o : MO} (h : b ≠ a) : mup M a o b = M b := by unfold mup; rw [if_neg h]
theorem mup_mup {M : MH} {a : Addr} {o u : MO} : mup (mup M a o) a u = mup M a u := by funext b; unfold mup; split <;> rfl
def MLe (M M' : MH) : Prop := ∀ a o, M a = some o → M' a = some o
theorem MLe.refl (M : MH) : MLe M M := fun _ _ h => h
theorem MLe.trans {M M1 M2 : MH} (a : MLe M M1) (b : MLe M1 M2) : MLe M M2 := fun c o h => b c o (a c o h)
theorem MLe.up {M M' : MH} {a : Addr} {o : MO} (h : MLe M M') : MLe (mup M a o) (mup M' a o) := fun b u e => by
  unfold mup at e ⊢
  by_cases hb : b = a
  · rw [if_pos hb] at e ⊢; exact e
  · rw [if_neg hb] at e ⊢; exact h b u e
theorem MLe.new {M M' : MH} {a : Addr} {o : MO} (h : MLe M M') (hn : M a = none) : MLe M (mup M' a o) := fun b u e => by
  have hb : b ≠ a := fun z => by subst z; rw [hn] at e; cases e
  rw [mup_ne hb]; exact h b u e

/-! ### keys -/
mutual
def nkOf : D → Option NestedKey
  | .non => some .none
  | .int i => some (.num i)
  | .str x => some (.text x)
  | .tup ds => (nksOf ds).map .tup
  | _ => none
def nksOf : List D → Option (List NestedKey)
  | [] => some []
  | d :: ds => match nkOf d, nksOf ds with
    | some k, some r => some (k :: r)
    | _, _ => none
end
mutual
theorem nkOf_inj : ∀ (a b : D) (k : NestedKey), nkOf a = some k → nkOf b = some k → a = b := fun a b k ha hb => by
  cases a with
  | tup x =>
    cases b with
    | tup y =>
      simp only [nkOf, Option.map_eq_some_iff] at ha hb
      obtain ⟨k1, e1, rfl⟩ := ha
      obtain ⟨k2, e2, e3⟩ := hb
      cases e3
      rw [nksOf_inj x y _ e1 e2]
    | _ =>
      simp only [nkOf, Option.map_eq_some_iff] at ha hb <;>
        (obtain ⟨k1, e1, e2⟩ := ha; first | (rw [← e2] at hb; first | (cases hb; done) | simp at hb) | simp_all)
  | _ =>
    cases b with
    | tup y =>
      simp only [nkOf, Option.map_eq_some_iff] at ha hb <;>
        (obtain ⟨k1, e1, e2⟩ := hb; first | (rw [← e2] at ha; first | (cases ha; done) | simp at ha) | simp_all)
    | _ =>
      simp only [nkOf] at ha hb <;>
        first
          | (cases ha; done)
          | (cases hb; done)
          | (cases ha; cases hb <;> rfl)
theorem nksOf_inj : ∀ (a b : List D) (k : List NestedKey), nksOf a = some k → nksOf b = some k → a = b
  | [], [], _, _, _ => rfl
  | [], d :: ds, k, ha, hb => by
    simp only [nksOf] at ha hb
    cases ha
    cases e1 : nkOf d <;> cases e2 : nksOf ds <;> simp [e1, e2] at hb
  | d :: ds, [], k, ha, hb => by
    simp only [nksOf] at ha hb
    cases hb
    cases e1 : nkOf d <;> cases e2 : nksOf ds <;> simp [e1, e2] at ha
  | d :: ds, c :: cs, k, ha, hb => by
    simp only [nksOf] at ha hb
    cases e1 : nkOf d with
    | none => simp [e1] at ha
    | some k1 =>
      cases e2 : nksOf ds with
      | none => simp [e1, e2] at ha
      | some k2 =>
        cases e3 : nkOf c with
        | none => simp [e3] at hb
        | some k3 =>
          cases e4 : nksOf cs with
          | none => simp [e3, e4] at hb
          | some k4 =>
            simp only [e1, e2, e3, e4, Option.some.injEq] at ha hb
            rw [← hb] at ha
            injection ha with h1 h2
            subst h1; subst h2
            rw [nkOf_inj d c _ e1 e3, nksOf_inj ds cs _ e2 e4]
end
/-- a dict's contents -/
def look (k : D) : List (D × D) → Option D
  | [] => none
  | (a, v) :: r => if a = k then some v else look k r
def putD (k v : D) (kvs : List (D × D)) : List (D × D) := if (look k kvs).isSome = true then kvs.map (fun p => if p.1 = k then (p.1, v) else p) else kvs ++ [(k, v)]
def delD (k : D) (kvs : List (D × D)) : List (D × D) := kvs.filter fun p => decide (p.1 ≠ k)

/-! ### the small heap and the one below -/
def kD : Key → D
  | .inl i => .int i
  | .inr x => .str x
section
variable (P : Program) (w : World) (K : PySem.W.Frag)
/-- a dict with keys that are tuples, by its entries -/
def NDict (xs : List (NestedKey × Addr × Value)) (a : Addr) : HO :=
  .ext fun h => ∃ o es ep, h.get? a = some o ∧ o.ExactDict ∧ o.data = .dict es ep ∧ es.toList = xs.map (entryOfKey (nestedKind P w))
def KRep (H : Hp) : List (D × D) → List (Key × V) → Prop := Paired fun p q => p.1 = kD q.1 ∧ Rep K H p.2 q.2
def NRep (H : Hp) : List (D × D) → List (NestedKey × Addr × Value) → Prop :=
  Paired fun p q => nkOf p.1 = some q.1 ∧ q.1.depth ≤ 8 ∧ Rep K H p.1 (.ref q.2.1) ∧ ∃ v, RelV v q.2.2 ∧ Rep K H p.2 v
def FRep (H : Hp) : List (Str × D) → List (Str × V) → Prop := Paired fun p q => p.1 = q.1 ∧ Rep K H p.2 q.2
def RepO (H : Hp) (a : Addr) : MO → Prop
  | .lst ds => ∃ vs, H a = some (.lst vs) ∧ Reps K H ds vs
  | .dct kvs => ∃ kvs', H a = some (.dK kvs') ∧ KRep K H kvs kvs'
  | .dcn kvs => ∃ xs, H a = some (NDict P w xs a) ∧ (a == sysModules) = false ∧ xs.length ≤ sizeLine ∧ (xs.map (·.1)).Nodup ∧ NRep K H kvs xs
  | .ins C fs => ∃ dx fs', H a = some (.ins C dx fs') ∧ FRep K H fs fs'
  | .tab q => LamX.TabS H a q
def LinkM (H : Hp) (M : MH) : Prop := ∀ a o, M a = some o → RepO P w K H a o
end
abbrev DSt := List (Option D)
structure Slots (K : PySem.W.Frag) (H : Hp) (σ : L2.St) (τ : DSt) : Prop where
  len : τ.length = σ.length
  at_ : ∀ (i : Nat) d, τ[i]? = some (some d) → ∃ v, σ[i]? = some (some v) ∧ Rep K H d v
/-- what the small heap doesn't tell of stays -/
structure Fr (M : MH) (H : Hp) (M' : MH) (H' : Hp) : Prop where
  keep : ∀ a o, H a = some o → M a = none → H' a = some o
  out : ∀ a o, H a = some o → M a = none → M' a = none
theorem Fr.refl (M : MH) (H : Hp) : Fr M H M H := ⟨fun _ _ h _ => h, fun _ _ _ h => h⟩
theorem Fr.trans {M M1 M2 : MH} {H H1 H2 : Hp} (a : Fr M H M1 H1) (b : Fr M1 H1 M2 H2) : Fr M H M2 H2 :=
  ⟨fun c o h n => b.keep c o (a.keep c o h n) (a.out c o h n), fun c o h n => b.out c o (a.keep c o h n) (a.out c o h n)⟩
theorem Fr.less {M M1 M2 : MH} {H H1 : Hp} (a : Fr M H M1 H1) (l : MLe M2 M1) : Fr M H M2 H1 :=
  ⟨a.keep, fun c o h n => by
    have := a.out c o h n
    cases e : M2 c with
    | none => rfl
    | some u => rw [l c u e] at this; cases this⟩
section
variable {P : Program} {w : World} {K : PySem.W.Frag} {H H' : Hp} {M M' M0 : MH}
theorem LinkM.less (l : LinkM P w K H M) (h : MLe M0 M) : LinkM P w K H M0 := fun a o e => l a o (h a o e)
/-- a code object is no dict -/
theorem ndict_code {xs : List (NestedKey × Addr × Value)} {a c : Addr} {q : Str} : NDict P w xs a ≠ LamX.CodeO c q := fun z => by
  injection z with z
  have h := congrFun z { objs := Array.replicate (c + 1) { cls := .none, data := .fields #[.none, .str q 0] } }
  have e : (∃ (oc : Obj) (vs : Array Value) (t : Tok), ({ objs := Array.replicate (c + 1) { cls := .none, data := .fields #[.none, .str q 0] } } : Heap).get? c = some oc ∧ oc.data = .fields vs ∧ vs[1]? = some (.str q t)) :=
    ⟨{ cls := .none, data := .fields #[.none, .str q 0] }, #[.none, .str q 0], 0, by simp [Heap.get?], rfl, rfl⟩
  rw [← h] at e
  obtain ⟨o, es, ep, ho, _, hd, _⟩ := e
  have ho2 : o = { cls := .none, data := .fields #[.none, .str q 0] } := by
    unfold Heap.get? at ho
    by_cases ha : a < c + 1
    · simp [ha] at ho
      exact ho.symm
    · simp [ha] at ho
  rw [ho2] at hd
  cases hd
/-- what a datum leans on is not in the small heap -/
theorem RepO.notup {a : Addr} {o : MO} (r : RepO P w K H a o) : (∀ vs, H a ≠ some (.tup vs)) ∧ (∀ ob u, H a ≠ some (.frz ob u)) ∧ ∀ c q, H a ≠ some (LamX.CodeO c q) := by
  cases o with
  | lst ds => obtain ⟨vs, e, _⟩ := r; exact ⟨fun _ z => (by rw [e] at z; cases z), fun _ _ z => (by rw [e] at z; cases z), fun _ _ z => (by rw [e] at z; unfold LamX.CodeO at z; cases z)⟩
  | dct kvs => obtain ⟨vs, e, _⟩ := r; exact ⟨fun _ z => (by rw [e] at z; cases z), fun _ _ z => (by rw [e] at z; cases z), fun _ _ z => (by rw [e] at z; unfold LamX.CodeO at z; cases z)⟩
  | dcn kvs => obtain ⟨vs, e, _⟩ := r; exact ⟨fun _ z => (by rw [e] at z; cases z), fun _ _ z => (by rw [e] at z; cases z), fun _ _ z => (by rw [e] at z; exact ndict_code (Option.some.inj z))⟩
  | ins C fs => obtain ⟨dx, fs', e, _⟩ := r; exact ⟨fun _ z => (by rw [e] at z; cases z), fun _ _ z => (by rw [e] at z; cases z), fun _ _ z => (by rw [e] at z; unfold LamX.CodeO at z; cases z)⟩
  | tab q => obtain ⟨ps, e, _⟩ := r; exact ⟨fun _ z => (by rw [e] at z; cases z), fun _ _ z => (by rw [e] at z; cases z), fun _ _ z => (by rw [e] at z; unfold LamX.CodeO at z; cases z)⟩
theorem LinkM.tup_out (l : LinkM P w K H M) {a : Addr} {vs : List V} (h : H a = some (.tup vs)) : M a = none := by
  cases e : M a with
  | none => rfl
  | some o => exact absurd h ((l a o e).notup.1 vs)
theorem LinkM.frz_out (l : LinkM P w K H M) {a : Addr} {ob : Obj} {u : HO} (h : H a = some (.frz ob u)) : M a = none := by
  cases e : M a with
  | none => rfl
  | some o => exact absurd h ((l a o e).notup.2.1 ob u)
theorem LinkM.code_out (l : LinkM P w K H M) {a c : Addr} {q : Str} (h : H a = some (LamX.CodeO c q)) : M a = none := by
  cases e : M a with
  | none => rfl
  | some o => exact absurd h ((l a o e).notup.2.2 c q)
/-- what data lean on: tuples and what is frozen -/
def Imm (H H' : Hp) : Prop := (∀ a vs, H a = some (.tup vs) → H' a = some (.tup vs)) ∧ (∀ a o u, H a = some (.frz o u) → H' a = some (.frz o u)) ∧ ∀ a c q, H a = some (LamX.CodeO c q) → H' a = some (LamX.CodeO c q)
theorem Fr.imm (f : Fr M H M' H') (l : LinkM P w K H M) : Imm H H' := ⟨fun a vs h => f.keep a _ h (l.tup_out h), fun a o u h => f.keep a _ h (l.frz_out h), fun a c q h => f.keep a _ h (l.code_out h)⟩
theorem Imm.sqT {a : Addr} {vs : List V} (i : Imm H H') (h : SqT K H a vs) : SqT K H' a vs := by
  rcases h with (h | ⟨o, h⟩) | h
  · exact .inl (.inl (i.1 _ _ h))
  · exact .inl (.inr ⟨o, i.2.1 _ _ _ h⟩)
  · exact .inr h
theorem Imm.roL {a : Addr} {vs : List V} (i : Imm H H') (h : RoL K H a vs) : RoL K H' a vs := by
  rcases h with ⟨o, h⟩ | h
  · exact .inl ⟨o, i.2.1 _ _ _ h⟩
  · exact .inr h
mutual
theorem Imm.rep (i : Imm H H') : ∀ (d : D) (v : V), Rep K H d v → Rep K H' d v
  | .non, _, h => h
  | .bl _, _, h => h
  | .int _, _, h => h
  | .str _, _, h => h
  | .ref _, _, h => h
  | .ty _, _, h => h
  | .tup ds, v, h => by
    rw [Rep] at h ⊢
    obtain ⟨a, vs, e, s, r⟩ := h
    exact ⟨a, vs, e, i.sqT s, Imm.reps i ds vs r⟩
  | .rol ds, v, h => by
    rw [Rep] at h ⊢
    obtain ⟨a, vs, e, s, r⟩ := h
    exact ⟨a, vs, e, i.roL s, Imm.reps i ds vs r⟩
theorem Imm.reps (i : Imm H H') : ∀ (ds : List D) (vs : List V), Reps K H ds vs → Reps K H' ds vs
  | [], _, h => h
  | d :: ds, vs, h => by
    rw [Reps] at h ⊢
    obtain ⟨v, r, e, h1, h2⟩ := h
    exact ⟨v, r, e, Imm.rep i d v h1, Imm.reps i ds r h2⟩
end
theorem Imm.slots {σ : L2.St} {τ : DSt} (i : Imm H H') (s : Slots K H σ τ) : Slots K H' σ τ :=
  ⟨s.len, fun j d e => let ⟨v, h1, h2⟩ := s.at_ j d e; ⟨v, h1, i.rep d v h2⟩⟩
theorem Imm.refl (H : Hp) : Imm H H := ⟨fun _ _ h => h, fun _ _ _ h => h, fun _ _ _ h => h⟩
theorem Imm.upd {a : Addr} {o : HO} (h1 : ∀ vs, H a ≠ some (.tup vs)) (h2 : ∀ ob u, H a ≠ some (.frz ob u)) (h3 : ∀ c q, H a ≠ some (LamX.CodeO c q)) : Imm H (L2.upd H a o) :=
  ⟨fun b vs h => by rw [upd_ne (fun z => by subst z; exact h1 vs h)]; exact h, fun b ob u h => by rw [upd_ne (fun z => by subst z; exact h2 ob u h)]; exact h, fun b c q h => by rw [upd_ne (fun z => by subst z; exact h3 c q h)]; exact h⟩
/-- an object's description, where the object itself and the data stay -/
theorem Imm.tabS {a : Addr} {q : Str} (i : Imm H H') (e : H' a = H a) (r : LamX.TabS H a q) : LamX.TabS H' a q := by
  obtain ⟨ps, h1, h2, h3⟩ := r
  exact ⟨ps, e.trans h1, h2, fun pos cv hc => let ⟨c, e1, e2⟩ := h3 pos cv hc; ⟨c, e1, i.2.2 _ _ _ e2⟩⟩
theorem RepO.stay {a : Addr} {o : MO} (i : Imm H H') (e : H' a = H a) (r : RepO P w K H a o) : RepO P w K H' a o := by
  cases o with
  | lst ds => obtain ⟨vs, h, q⟩ := r; exact ⟨vs, e.trans h, i.reps _ _ q⟩
  | dct kvs => obtain ⟨vs, h, q⟩ := r; exact ⟨vs, e.trans h, Paired.mapP q fun p q z => ⟨z.1, i.rep _ _ z.2⟩⟩
  | dcn kvs => obtain ⟨xs, h, n, z, nd, q⟩ := r; exact ⟨xs, e.trans h, n, z, nd, Paired.mapP q fun p q ⟨z1, z2, z3, v, z4, z5⟩ => ⟨z1, z2, i.rep _ _ z3, v, z4, i.rep _ _ z5⟩⟩
  | ins C fs => obtain ⟨dx, fs', h, q⟩ := r; exact ⟨dx, fs', e.trans h, Paired.mapP q fun p q z => ⟨z.1, i.rep _ _ z.2⟩⟩
  | tab q => exact i.tabS e r
theorem LinkM.fresh (l : LinkM P w K H M) {p : Addr} (h : H p = none) : M p = none := by
  cases e : M p with
  | none => rfl
  | some o =>
    have r := l p o e
    cases o with
    | lst ds => obtain ⟨vs, q, _⟩ := r; rw [h] at q; cases q
    | dct kvs => obtain ⟨vs, q, _⟩ := r; rw [h] at q; cases q
    | dcn kvs => obtain ⟨vs, q, _⟩ := r; rw [h] at q; cases q
    | ins C fs => obtain ⟨dx, fs', q, _⟩ := r; rw [h] at q; cases q
    | tab q => obtain ⟨ps, q, _⟩ := r; rw [h] at q; cases q
/-- a new object, told -/
theorem LinkM.new (l : LinkM P w K H M) {p : Addr} {u : HO} {o : MO} (h : H p = none) (r : RepO P w K (L2.upd H p u) p o) :
    LinkM P w K (L2.upd H p u) (mup M p o) ∧ Fr M H (mup M p o) (L2.upd H p u) := by
  have i : Imm H (L2.upd H p u) := Imm.upd (fun vs z => by rw [h] at z; cases z) (fun _ _ z => by rw [h] at z; cases z) (fun _ _ z => by rw [h] at z; cases z)
  refine ⟨fun b v e => ?_, fun b v e n => by rw [upd_ne (ne_of_none e h)]; exact e, fun b v e n => by rw [mup_ne (ne_of_none e h)]; exact n⟩
  by_cases hb : b = p
  · subst hb; rw [mup_same] at e; cases e; exact r
  · rw [mup_ne hb] at e
    exact (l b v e).stay i (upd_ne hb)
/-- a new object that isn't told (a tuple) -/
theorem LinkM.add (l : LinkM P w K H M) {p : Addr} {u : HO} (h : H p = none) : LinkM P w K (L2.upd H p u) M ∧ Fr M H M (L2.upd H p u) := by
  have i : Imm H (L2.upd H p u) := Imm.upd (fun vs z => by rw [h] at z; cases z) (fun _ _ z => by rw [h] at z; cases z) (fun _ _ z => by rw [h] at z; cases z)
  refine ⟨fun b v e => ?_, fun b v e n => by rw [upd_ne (ne_of_none e h)]; exact e, fun b v e n => n⟩
  have hb : b ≠ p := fun z => by subst z; rw [l.fresh h] at e; cases e
  exact (l b v e).stay i (upd_ne hb)
/-- an object that is told, changed -/
theorem LinkM.put (l : LinkM P w K H M) {p : Addr} {u : HO} {o o0 : MO} (h : M p = some o0) (r : RepO P w K (L2.upd H p u) p o) :
    LinkM P w K (L2.upd H p u) (mup M p o) ∧ Fr M H (mup M p o) (L2.upd H p u) := by
  have q := (l p o0 h).notup
  have i : Imm H (L2.upd H p u) := Imm.upd q.1 q.2.1 q.2.2
  have ne : ∀ b, M b = none → b ≠ p := fun b n z => by subst z; rw [n] at h; cases h
  refine ⟨fun b v e => ?_, fun b v e n => by rw [upd_ne (ne b n)]; exact e, fun b v e n => by rw [mup_ne (ne b n)]; exact n⟩
  by_cases hb : b = p
  · subst hb; rw [mup_same] at e; cases e; exact r
  · rw [mup_ne hb] at e
    exact (l b v e).stay i (upd_ne hb)
theorem LinkM.immPut (l : LinkM P w K H M) {p : Addr} {u : HO} {o0 : MO} (h : M p = some o0) : Imm H (L2.upd H p u) := Imm.upd (l p o0 h).notup.1 (l p o0 h).notup.2.1 (l p o0 h).notup.2.2
theorem immNew {p : Addr} {u : HO} (h : H p = none) : Imm H (L2.upd H p u) := Imm.upd (fun vs z => by rw [h] at z; cases z) (fun _ _ z => by rw [h] at z; cases z) (fun _ _ z => by rw [h] at z; cases z)
end

/-! ### readings over data -/
abbrev DVK := D → MH → Prop
/-- what is wanted of an exception: its class, the slots, the small heap -/
abbrev DXW := Value → DSt → MH → Prop
abbrev DTE := DSt → MH → DXW → DVK → Prop
abbrev DTT := DSt → MH → DXW → (Bool → MH → Prop) → Prop
abbrev DTA := DSt → MH → DXW → (List D → MH → Prop) → Prop
structure DEnds where
  nx : DSt → MH → Prop
  rt : DVK
  bk : DSt → MH → Prop := fun _ _ => False
  ct : DSt → MH → Prop := fun _ _ => False
  xx : DXW := fun _ _ _ => False
abbrev DTS := DEnds → DSt → MH → Prop
section
variable (P : Program) (w : World) (K : PySem.W.Frag)
/-- what follows, told below -/
def DownV (M : MH) (H : Hp) (Qd : DVK) (Q : VK) : Prop :=
  ∀ v H' d M', Fr M H M' H' → LinkM P w K H' M' → Rep K H' d v → Qd d M' → Q v H'
def DownT (M : MH) (H : Hp) (Qd : Bool → MH → Prop) (Q : Bool → Hp → Prop) : Prop :=
  ∀ b H' M', Fr M H M' H' → LinkM P w K H' M' → Qd b M' → Q b H'
def DownA (M : MH) (H : Hp) (Qd : List D → MH → Prop) (Q : List V → Hp → Prop) : Prop :=
  ∀ vs H' ds M', Fr M H M' H' → LinkM P w K H' M' → Reps K H' ds vs → Qd ds M' → Q vs H'
def DownN (M : MH) (H : Hp) (Qd : DSt → MH → Prop) (Q : L2.St → Hp → Prop) : Prop :=
  ∀ σ' H' τ' M', Fr M H M' H' → Slots K H' σ' τ' → LinkM P w K H' M' → Qd τ' M' → Q σ' H'
def DownX (M : MH) (H : Hp) (Ed : DXW) (W : WX) : Prop :=
  ∀ c od σ' H' τ' M', Fr M H M' H' → Slots K H' σ' τ' → LinkM P w K H' M' → Ed c τ' M' → W c od σ' H'
structure DownS (M : MH) (H : Hp) (Dd : DEnds) (D : Ends) (W : WX) : Prop where
  nx : DownN P w K M H Dd.nx D.nx
  rt : DownV P w K M H Dd.rt D.rt
  bk : DownN P w K M H Dd.bk D.bk
  ct : DownN P w K M H Dd.ct D.ct
  xx : DownX P w K M H Dd.xx W
def liftE (W : WX) (t : DTE) : TE := fun σ H Q => ∃ τ M Ed Qd, Slots K H σ τ ∧ LinkM P w K H M ∧ t τ M Ed Qd ∧ DownV P w K M H Qd Q ∧ DownX P w K M H Ed W
def liftT (W : WX) (t : DTT) : TT := fun σ H Q => ∃ τ M Ed Qd, Slots K H σ τ ∧ LinkM P w K H M ∧ t τ M Ed Qd ∧ DownT P w K M H Qd Q ∧ DownX P w K M H Ed W
def liftA (W : WX) (t : DTA) : TA := fun σ H Q => ∃ τ M Ed Qd, Slots K H σ τ ∧ LinkM P w K H M ∧ t τ M Ed Qd ∧ DownA P w K M H Qd Q ∧ DownX P w K M H Ed W
def liftS (W : WX) (t : DTS) : TS := fun D σ H => ∃ τ M Dd, Slots K H σ τ ∧ LinkM P w K H M ∧ t Dd τ M ∧ DownS P w K M H Dd D W
end
structure DE (X : Cx) (W : WX) (e : Expr) (t : DTE) : Prop where
  pe : PE X e (liftE X.prog X.w X.K W t)
structure DT (X : Cx) (W : WX) (e : Expr) (t : DTT) : Prop where
  pt : PT X e (liftT X.prog X.w X.K W t)
structure DW (X : Cx) (W : WX) (e : Expr) (t : DTT) : Prop where
  pw : PW X e (liftT X.prog X.w X.K W t)
structure DA (X : Cx) (W : WX) (es : List Expr) (t : DTA) : Prop where
  pa : PA X es (liftA X.prog X.w X.K W t)
structure DS (X : Cx) (W : WX) (st : Stmt) (t : DTS) : Prop where
  ps : PS X st (liftS X.prog X.w X.K W t)
structure DSs (X : Cx) (W : WX) (st : List Stmt) (t : DTS) : Prop where
  ps : PSs X st (liftS X.prog X.w X.K W t)
theorem DW.dt {X : Cx} {W : WX} {e : Expr} {t : DTT} (h : DW X W e t) : DT X W e t := ⟨h.pw.pt⟩
theorem pe_imp {X : Cx} {e : Expr} {t t' : TE} (h : PE X e t) (i : ∀ σ H Q, t' σ H Q → t σ H Q) : PE X e t' := ⟨fun pins s σ H Q I q => h.run pins s σ H Q I (i σ H Q q)⟩
theorem pt_imp {X : Cx} {e : Expr} {t t' : TT} (h : PT X e t) (i : ∀ σ H Q, t' σ H Q → t σ H Q) : PT X e t' := ⟨fun pins s σ H Q I q => h.run pins s σ H Q I (i σ H Q q)⟩
theorem pw_imp {X : Cx} {e : Expr} {t t' : TT} (h : PW X e t) (i : ∀ σ H Q, t' σ H Q → t σ H Q) : PW X e t' := ⟨fun wh pins s σ H Q I q => h.run wh pins s σ H Q I (i σ H Q q)⟩
theorem pa_imp {X : Cx} {es : List Expr} {t t' : TA} (h : PA X es t) (i : ∀ σ H Q, t' σ H Q → t σ H Q) : PA X es t' := ⟨fun pos pins s σ H Q I q => h.run pos pins s σ H Q I (i σ H Q q)⟩
theorem ps_imp {X : Cx} {st : Stmt} {t t' : TS} (h : PS X st t) (i : ∀ D σ H, t' D σ H → t D σ H) : PS X st t' := ⟨fun pins s σ H D I q => h.run pins s σ H D I (i D σ H q)⟩
theorem pss_imp {X : Cx} {st : List Stmt} {t t' : TS} (h : PSs X st t) (i : ∀ D σ H, t' D σ H → t D σ H) : PSs X st t' := ⟨fun pins s σ H D I q => h.run pins s σ H D I (i D σ H q)⟩
section
variable {P : Program} {w : World} {K : PySem.W.Frag} {M M1 : MH} {H H1 : Hp}
theorem DownV.step {Qd : DVK} {Q : VK} (d : DownV P w K M H Qd Q) (f : Fr M H M1 H1) : DownV P w K M1 H1 Qd Q := fun v H' d' M' f' l r q => d v H' d' M' (f.trans f') l r q
theorem DownT.step {Qd : Bool → MH → Prop} {Q : Bool → Hp → Prop} (d : DownT P w K M H Qd Q) (f : Fr M H M1 H1) : DownT P w K M1 H1 Qd Q := fun v H' M' f' l q => d v H' M' (f.trans f') l q
theorem DownA.step {Qd : List D → MH → Prop} {Q : List V → Hp → Prop} (d : DownA P w K M H Qd Q) (f : Fr M H M1 H1) : DownA P w K M1 H1 Qd Q := fun v H' d' M' f' l r q => d v H' d' M' (f.trans f') l r q
theorem DownN.step {Qd : DSt → MH → Prop} {Q : L2.St → Hp → Prop} (d : DownN P w K M H Qd Q) (f : Fr M H M1 H1) : DownN P w K M1 H1 Qd Q := fun v H' d' M' f' l r q => d v H' d' M' (f.trans f') l r q
theorem DownX.step {Ed : DXW} {W : WX} (d : DownX P w K M H Ed W) (f : Fr M H M1 H1) : DownX P w K M1 H1 Ed W := fun c od σ' H' τ' M' f' l r q => d c od σ' H' τ' M' (f.trans f') l r q
theorem DownS.step {Dd : DEnds} {D : Ends} {W : WX} (d : DownS P w K M H Dd D W) (f : Fr M H M1 H1) : DownS P w K M1 H1 Dd D W := ⟨d.nx.step f, d.rt.step f, d.bk.step f, d.ct.step f, d.xx.step f⟩
end
end DL
namespace DL
open PySem PySem.Spec PyProof.Rows L2
/-! ### expressions -/
section
variable {X : Cx} {W : WX} {a b c e : Expr} {ta tb tc te : DTE} {pos : Pos}
def dVar (i : Nat) : DTE := fun τ M _ Q => match τ[i]? with
  | some (some d) => Q d M
  | _ => False
def dC (d : D) : DTE := fun _ M _ Q => Q d M
theorem de_var (i : Nat) {x : Str} (hN : X.N[i]? = some x := by rfl) (hv : Vis X.env.scope x := by first | exact Or.inl rfl | exact Or.inr (Or.inl rfl) | exact Or.inr (Or.inr rfl)) (hd : (x == ("__debug__" : Str)) = false := by decide)
    (hcd : (x == ("__classdict__" : Str)) = false := by decide) : DE X W (.Name x pos) (dVar i) := ⟨pe_imp (pe_var hN hv hd hcd) fun σ H Q ⟨τ, M, Ed, Qd, sl, lm, q, dv, dx⟩ => by
  unfold dVar at q
  split at q
  · rename_i d e
    obtain ⟨v, h1, h2⟩ := sl.at_ i d e
    exact ⟨v, h1, dv v H d M (Fr.refl _ _) lm h2 q⟩
  · exact q.elim⟩
theorem de_c {e : Expr} {d : D} {v : V} (h : PE X e (tC v)) (r : ∀ H, Rep X.K H d v) : DE X W e (dC d) := ⟨pe_imp h fun σ H Q ⟨τ, M, Ed, Qd, sl, lm, q, dv, dx⟩ => dv v H d M (Fr.refl _ _) lm (r H) q⟩
theorem de_int {i j} : DE X W (.Constant (.int i) j pos) (dC (.int i)) := de_c pe_int fun _ => rfl
theorem de_bl {b j} : DE X W (.Constant (.bool b) j pos) (dC (.bl b)) := de_c pe_bl fun _ => rfl
theorem de_non {j} : DE X W (.Constant .none j pos) (dC .non) := de_c pe_non fun _ => rfl
theorem de_str {x j} : DE X W (.Constant (.str x) j pos) (dC (.str x)) := de_c pe_str fun _ => rfl
/-- a module's constant that is a number, a text, a truth -/
theorem de_glob {x : Str} {d : D} {v : V} {u : Value} (hg : Gl X x) (hm : X.mg x = some u) (r : RelV v u) (rr : ∀ H, Rep X.K H d v) (hd : (x == ("__debug__" : Str)) = false := by decide) : DE X W (.Name x pos) (dC d) := de_c (pe_glob hg hm r hd) rr

/-! two places -/
abbrev DR2 := D → D → MH → DVK → Prop
def liftR2 (P : Program) (w : World) (K : PySem.W.Frag) (r : DR2) : R2 := fun x y H Q => ∃ dx dy M Qd, LinkM P w K H M ∧ Rep K H dx x ∧ Rep K H dy y ∧ r dx dy M Qd ∧ DownV P w K M H Qd Q
def DOp (X : Cx) (f : Value → Value → Sem Value) (r : DR2) : Prop := OpR X f (liftR2 X.prog X.w X.K r)
def dBin (r : DR2) (ta tb : DTE) : DTE := fun τ M E Q => ta τ M E fun x M1 => tb τ M1 E fun y M2 => r x y M2 Q
theorem lift_bin {P : Program} {w : World} {K : PySem.W.Frag} {r : DR2} {σ : L2.St} {H : Hp} {Q : VK} (h : liftE P w K W (dBin r ta tb) σ H Q) :
    liftE P w K W ta σ H fun x H1 => liftE P w K W tb σ H1 fun y H2 => liftR2 P w K r x y H2 Q := by
  obtain ⟨τ, M, Ed, Qd, sl, lm, q, dv, dx⟩ := h
  refine ⟨τ, M, Ed, _, sl, lm, q, fun x H1 d1 M1 f1 l1 r1 q1 => ⟨τ, M1, Ed, _, (f1.imm lm).slots sl, l1, q1, fun y H2 d2 M2 f2 l2 r2 q2 => ?_, dx.step f1⟩, dx⟩
  exact ⟨d1, d2, M2, Qd, l2, (f2.imm l1).rep _ _ r1, r2, q2, dv.step (f1.trans f2)⟩
theorem de_bin {op : Operator} {r : DR2} (ho : DOp X (binaryOp op) r) (ha : DE X W a ta) (hb : DE X W b tb) : DE X W (.BinOp a op b pos) (dBin r ta tb) :=
  ⟨pe_imp (pe_op ho ha.pe hb.pe) fun σ H Q h => lift_bin h⟩
theorem de_cmp {op : CmpOp} {r : DR2} (ho : DOp X (compareOp op) r) (ha : DE X W a ta) (hb : DE X W b tb) (hm : behindInMarks op b = false := by first | exact nobehind _ (by decide) (by decide) | rfl) : DE X W (.Compare a [op] [b] pos) (dBin r ta tb) :=
  ⟨pe_imp (pe_cmpR ho ha.pe hb.pe hm) fun σ H Q h => lift_bin h⟩
/-- a value that is a truth, as a test -/
def dB (t : DTE) : DTT := fun τ M E Q => t τ M E fun x M1 => match x with
  | .bl k => Q k M1
  | _ => False
theorem lift_b {P : Program} {w : World} {K : PySem.W.Frag} {t : DTE} {σ : L2.St} {H : Hp} {Q : Bool → Hp → Prop} (h : liftT P w K W (dB t) σ H Q) : liftE P w K W t σ H fun x H' => ∃ k, x = .bl k ∧ Q k H' := by
  obtain ⟨τ, M, Ed, Qd, sl, lm, q, dv, dx⟩ := h
  refine ⟨τ, M, Ed, _, sl, lm, q, fun x H1 d1 M1 f1 l1 r1 q1 => ?_, dx⟩
  cases d1 with
  | bl k => exact ⟨k, r1, dv k H1 M1 f1 l1 q1⟩
  | _ => exact q1.elim
theorem dt_cmp {op : CmpOp} {r : DR2} (ho : DOp X (compareOp op) r) (ha : DE X W a ta) (hb : DE X W b tb) (hm : behindInMarks op b = false := by first | exact nobehind _ (by decide) (by decide) | rfl) : DT X W (.Compare a [op] [b] pos) (dB (dBin r ta tb)) :=
  ⟨pt_imp (pt_cmpR ho ha.pe hb.pe hm) fun σ H Q h => by
    obtain ⟨τ, M, Ed, Qd, sl, lm, q, dv, dx⟩ := lift_b h
    exact lift_bin ⟨τ, M, Ed, Qd, sl, lm, q, dv, dx⟩⟩
theorem dt_val {t : DTE} (h : DE X W e t) (he : ∀ whole, isTrue e X.env whole = (do let v ← whole; standAt e.pos; holding [v] (truthy v)) := by intro _; rfl) : DT X W e (dB t) :=
  ⟨pt_imp (pt_val h.pe he) fun σ H Q h => lift_b h⟩
/-! a chain of two -/
def dChain (r r' : DR2) (ta tb tc : DTE) : DTE := fun τ M E Q => ta τ M E fun x M1 => tb τ M1 E fun y M2 => r x y M2 fun z M3 => match z with
  | .bl k => if k = true then tc τ M3 E fun u M4 => r' y u M4 Q else Q (.bl false) M3
  | _ => False
theorem lift_chain {P : Program} {w : World} {K : PySem.W.Frag} {r r' : DR2} {σ : L2.St} {H : Hp} {Q : VK} (h : liftE P w K W (dChain r r' ta tb tc) σ H Q) :
    tChain (liftR2 P w K r) (liftR2 P w K r') (liftE P w K W ta) (liftE P w K W tb) (liftE P w K W tc) σ H Q := by
  obtain ⟨τ, M, Ed, Qd, sl, lm, q, dv, dx⟩ := h
  refine ⟨τ, M, Ed, _, sl, lm, q, fun x H1 d1 M1 f1 l1 r1 q1 => ⟨τ, M1, Ed, _, (f1.imm lm).slots sl, l1, q1, fun y H2 d2 M2 f2 l2 r2 q2 => ?_, dx.step f1⟩, dx⟩
  refine ⟨d1, d2, M2, _, l2, (f2.imm l1).rep _ _ r1, r2, q2, fun z H3 d3 M3 f3 l3 r3 q3 => ?_⟩
  have f13 := f1.trans (f2.trans f3)
  cases d3 with
  | bl k =>
    refine ⟨k, r3, ?_⟩
    cases k with
    | true =>
      rw [if_pos rfl]
      have q3' : tc τ M3 Ed fun u M4 => r' d2 u M4 Qd := q3
      exact ⟨τ, M3, Ed, _, (f13.imm lm).slots sl, l3, q3', fun u H4 d4 M4 f4 l4 r4 q4 => ⟨d2, d4, M4, Qd, l4, (f4.imm l3).rep _ _ ((f3.imm l2).rep _ _ r2), r4, q4, dv.step (f13.trans f4)⟩, dx.step f13⟩
    | false =>
      rw [if_neg Bool.false_ne_true]
      exact dv _ H3 (.bl false) M3 f13 l3 rfl q3
  | _ => exact q3.elim
theorem de_chain {op op' : CmpOp} {r r' : DR2} (ho : DOp X (compareOp op) r) (ho' : DOp X (compareOp op') r') (ha : DE X W a ta) (hb : DE X W b tb) (hc : DE X W c tc)
    (hm : lastMarks [op, op'] [b, c] = false := by with_unfolding_all rfl) : DE X W (.Compare a [op, op'] [b, c] pos) (dChain r r' ta tb tc) :=
  ⟨pe_imp (pe_chain ho ho' ha.pe hb.pe hc.pe hm) fun σ H Q h => lift_chain h⟩
theorem dt_chain {op op' : CmpOp} {r r' : DR2} (ho : DOp X (compareOp op) r) (ho' : DOp X (compareOp op') r') (ha : DE X W a ta) (hb : DE X W b tb) (hc : DE X W c tc)
    (hm : lastMarks [op, op'] [b, c] = false := by with_unfolding_all rfl) : DT X W (.Compare a [op, op'] [b, c] pos) (dB (dChain r r' ta tb tc)) :=
  ⟨pt_imp (pt_chain ho ho' ha.pe hb.pe hc.pe hm) fun σ H Q h => by
    obtain ⟨τ, M, Ed, Qd, sl, lm, q, dv, dx⟩ := lift_b h
    exact lift_chain ⟨τ, M, Ed, Qd, sl, lm, q, dv, dx⟩⟩

/-! and, or, not, if -/
def dAnd (t u : DTT) : DTT := fun τ M E Q => t τ M E fun c M1 => if c = true then u τ M1 E Q else Q false M1
def dOr (t u : DTT) : DTT := fun τ M E Q => t τ M E fun c M1 => if c = true then Q true M1 else u τ M1 E Q
def dNot (t : DTT) : DTT := fun τ M E Q => t τ M E fun c M1 => Q (!c) M1
variable {tA tB : DTT} {rest : List Expr}
theorem dw_and1 (ha : DT X W a tA) : DW X W (.BoolOp .And [a] pos) tA := ⟨pw_and1 ha.pt⟩
theorem dw_or1 (ha : DT X W a tA) : DW X W (.BoolOp .Or [a] pos) tA := ⟨pw_or1 ha.pt⟩
theorem dw_and (ha : DT X W a tA) (hb : DW X W (.BoolOp .And (b :: rest) pos) tB) : DW X W (.BoolOp .And (a :: b :: rest) pos) (dAnd tA tB) :=
  ⟨pw_imp (pw_and ha.pt hb.pw) fun σ H Q ⟨τ, M, Ed, Qd, sl, lm, q, dv, dx⟩ => ⟨τ, M, Ed, _, sl, lm, q, fun c H1 M1 f1 l1 q1 => by
    cases c with
    | true => rw [if_pos rfl] at q1 ⊢; exact ⟨τ, M1, Ed, Qd, (f1.imm lm).slots sl, l1, q1, dv.step f1, dx.step f1⟩
    | false => rw [if_neg Bool.false_ne_true] at q1 ⊢; exact dv _ _ _ f1 l1 q1, dx⟩⟩
theorem dw_or (ha : DT X W a tA) (hb : DW X W (.BoolOp .Or (b :: rest) pos) tB) : DW X W (.BoolOp .Or (a :: b :: rest) pos) (dOr tA tB) :=
  ⟨pw_imp (pw_or ha.pt hb.pw) fun σ H Q ⟨τ, M, Ed, Qd, sl, lm, q, dv, dx⟩ => ⟨τ, M, Ed, _, sl, lm, q, fun c H1 M1 f1 l1 q1 => by
    cases c with
    | true => rw [if_pos rfl] at q1 ⊢; exact dv _ _ _ f1 l1 q1
    | false => rw [if_neg Bool.false_ne_true] at q1 ⊢; exact ⟨τ, M1, Ed, Qd, (f1.imm lm).slots sl, l1, q1, dv.step f1, dx.step f1⟩, dx⟩⟩
theorem dt_not (ha : DT X W a tA) : DT X W (.UnaryOp .Not a pos) (dNot tA) :=
  ⟨pt_imp (pt_not ha.pt) fun σ H Q ⟨τ, M, Ed, Qd, sl, lm, q, dv, dx⟩ => ⟨τ, M, Ed, _, sl, lm, q, fun c H1 M1 f1 l1 q1 => dv _ _ _ f1 l1 q1, dx⟩⟩
/-- .. as values that are truths -/
def dAndV (ta tb : DTE) : DTE := fun τ M E Q => ta τ M E fun x M1 => match x with
  | .bl k => if k = true then tb τ M1 E Q else Q (.bl false) M1
  | _ => False
def dOrV (ta tb : DTE) : DTE := fun τ M E Q => ta τ M E fun x M1 => match x with
  | .bl k => if k = true then Q (.bl true) M1 else tb τ M1 E Q
  | _ => False
def dNotV (ta : DTE) : DTE := fun τ M E Q => ta τ M E fun x M1 => match x with
  | .bl k => Q (.bl (!k)) M1
  | _ => False
theorem de_one {op} {t : DTE} (h : DE X W a t) : DE X W (.BoolOp op [a] pos) t := ⟨pe_one h.pe⟩
theorem de_and (ha : DE X W a ta) (hb : DE X W (.BoolOp .And (b :: rest) pos) tb) : DE X W (.BoolOp .And (a :: b :: rest) pos) (dAndV ta tb) :=
  ⟨pe_imp (pe_and ha.pe hb.pe) fun σ H Q ⟨τ, M, Ed, Qd, sl, lm, q, dv, dx⟩ => ⟨τ, M, Ed, _, sl, lm, q, fun v H1 d1 M1 f1 l1 r1 q1 => by
    cases d1 with
    | bl k =>
      refine ⟨k, r1, ?_⟩
      cases k with
      | true => rw [if_pos rfl]; exact ⟨τ, M1, Ed, Qd, (f1.imm lm).slots sl, l1, (show tb τ M1 Ed Qd from q1), dv.step f1, dx.step f1⟩
      | false => rw [if_neg Bool.false_ne_true]; exact dv _ _ (.bl false) _ f1 l1 rfl q1
    | _ => exact q1.elim, dx⟩⟩
theorem de_or (ha : DE X W a ta) (hb : DE X W (.BoolOp .Or (b :: rest) pos) tb) : DE X W (.BoolOp .Or (a :: b :: rest) pos) (dOrV ta tb) :=
  ⟨pe_imp (pe_or ha.pe hb.pe) fun σ H Q ⟨τ, M, Ed, Qd, sl, lm, q, dv, dx⟩ => ⟨τ, M, Ed, _, sl, lm, q, fun v H1 d1 M1 f1 l1 r1 q1 => by
    cases d1 with
    | bl k =>
      refine ⟨k, r1, ?_⟩
      cases k with
      | true => rw [if_pos rfl]; exact dv _ _ (.bl true) _ f1 l1 rfl q1
      | false => rw [if_neg Bool.false_ne_true]; exact ⟨τ, M1, Ed, Qd, (f1.imm lm).slots sl, l1, (show tb τ M1 Ed Qd from q1), dv.step f1, dx.step f1⟩
    | _ => exact q1.elim, dx⟩⟩
theorem de_not (ha : DE X W a ta) : DE X W (.UnaryOp .Not a pos) (dNotV ta) :=
  ⟨pe_imp (pe_not ha.pe) fun σ H Q ⟨τ, M, Ed, Qd, sl, lm, q, dv, dx⟩ => ⟨τ, M, Ed, _, sl, lm, q, fun v H1 d1 M1 f1 l1 r1 q1 => by
    cases d1 with
    | bl k => exact ⟨k, r1, dv _ _ (.bl (!k)) _ f1 l1 rfl q1⟩
    | _ => exact q1.elim, dx⟩⟩
def dIfE (t : DTT) (ta tb : DTE) : DTE := fun τ M E Q => t τ M E fun c M1 => if c = true then ta τ M1 E Q else tb τ M1 E Q
theorem de_if (hc : DT X W c tA) (ha : DE X W a ta) (hb : DE X W b tb) : DE X W (.IfExp c a b pos) (dIfE tA ta tb) :=
  ⟨pe_imp (pe_ifExp hc.pt ha.pe hb.pe) fun σ H Q ⟨τ, M, Ed, Qd, sl, lm, q, dv, dx⟩ => ⟨τ, M, Ed, _, sl, lm, q, fun k H1 M1 f1 l1 q1 => by
    cases k with
    | true => rw [if_pos rfl] at q1 ⊢; exact ⟨τ, M1, Ed, Qd, (f1.imm lm).slots sl, l1, q1, dv.step f1, dx.step f1⟩
    | false => rw [if_neg Bool.false_ne_true] at q1 ⊢; exact ⟨τ, M1, Ed, Qd, (f1.imm lm).slots sl, l1, q1, dv.step f1, dx.step f1⟩, dx⟩⟩

/-! ### argument lists, displays -/
variable {es : List Expr} {t : DTA}
def dNil : DTA := fun _ M _ Q => Q [] M
def dCons (ta : DTE) (tr : DTA) : DTA := fun τ M E Q => ta τ M E fun x M1 => tr τ M1 E fun xs M2 => Q (x :: xs) M2
theorem da_nil : DA X W [] dNil := ⟨pa_imp pa_nil fun σ H Q ⟨τ, M, Ed, Qd, sl, lm, q, dv, dx⟩ => dv [] H [] M (Fr.refl _ _) lm rfl q⟩
theorem da_cons (ha : DE X W e te) (hr : DA X W es t) (hs : starEach (e :: es) X.env = (false, eval e X.env) :: starEach es X.env := by rfl) : DA X W (e :: es) (dCons te t) :=
  ⟨pa_imp (pa_cons ha.pe hr.pa hs) fun σ H Q ⟨τ, M, Ed, Qd, sl, lm, q, dv, dx⟩ => ⟨τ, M, Ed, _, sl, lm, q, fun v H1 d1 M1 f1 l1 r1 q1 => ⟨τ, M1, Ed, _, (f1.imm lm).slots sl, l1, q1, fun vs H2 ds M2 f2 l2 r2 q2 =>
    dv (v :: vs) H2 (d1 :: ds) M2 (f1.trans f2) l2 ⟨v, vs, rfl, (f2.imm l1).rep _ _ r1, r2⟩ q2, dx.step f1⟩, dx⟩⟩
theorem Reps.length {K : PySem.W.Frag} {H : Hp} : ∀ {ds : List D} {vs : List V}, Reps K H ds vs → vs.length = ds.length
  | [], _, h => by rw [Reps] at h; rw [h]; rfl
  | d :: ds, _, h => by
    rw [Reps] at h
    obtain ⟨v, r, e, _, h2⟩ := h
    rw [e, List.length_cons, List.length_cons, Reps.length h2]
def dTup (t : DTA) : DTE := fun τ M E Q => t τ M E fun ds M1 => ds.length ≤ sizeLine ∧ Q (.tup ds) M1
def dLst (t : DTA) : DTE := fun τ M E Q => t τ M E fun ds M1 => ds.length ≤ sizeLine ∧ ∀ p, M1 p = none → Q (.ref p) (mup M1 p (.lst ds))
/-- a new tuple below is a datum -/
theorem new_tup {P : Program} {w : World} {K : PySem.W.Frag} {M : MH} {H : Hp} {Qd : DVK} {Q : VK} {ds : List D} {vs : List V} (lm : LinkM P w K H M) (dv : DownV P w K M H Qd Q) (r : Reps K H ds vs) (q : Qd (.tup ds) M)
    {p : Addr} (hp : H p = none) : Q (.ref p) (L2.upd H p (.tup vs)) := by
  obtain ⟨l2, f2⟩ := lm.add (u := .tup vs) hp
  exact dv _ _ (.tup ds) M f2 l2 ⟨p, vs, rfl, .inl (.inl upd_same), (immNew hp).reps _ _ r⟩ q
theorem new_lst {P : Program} {w : World} {K : PySem.W.Frag} {M : MH} {H : Hp} {Qd : DVK} {Q : VK} {ds : List D} {vs : List V} (lm : LinkM P w K H M) (dv : DownV P w K M H Qd Q) (r : Reps K H ds vs) (q : ∀ p, M p = none → Qd (.ref p) (mup M p (.lst ds)))
    {p : Addr} (hp : H p = none) : Q (.ref p) (L2.upd H p (.lst vs)) := by
  obtain ⟨l2, f2⟩ := lm.new (o := .lst ds) (u := .lst vs) hp ⟨vs, upd_same, (immNew hp).reps _ _ r⟩
  exact dv _ _ (.ref p) _ f2 l2 rfl (q p (lm.fresh hp))
theorem de_tup {x1} (h : DA X W es t) : DE X W (.Tuple es x1 pos) (dTup t) :=
  ⟨pe_imp (pe_tup h.pa) fun σ H Q ⟨τ, M, Ed, Qd, sl, lm, q, dv, dx⟩ => ⟨τ, M, Ed, _, sl, lm, q, fun vs H1 ds M1 f1 l1 r1 ⟨z, q1⟩ => ⟨by rw [r1.length]; exact z, fun p hp => new_tup l1 (dv.step f1) r1 q1 hp⟩, dx⟩⟩
theorem de_lst (h : DA X W es t) : DE X W (.List es pos) (dLst t) :=
  ⟨pe_imp (pe_lst h.pa) fun σ H Q ⟨τ, M, Ed, Qd, sl, lm, q, dv, dx⟩ => ⟨τ, M, Ed, _, sl, lm, q, fun vs H1 ds M1 f1 l1 r1 ⟨z, q1⟩ => ⟨by rw [r1.length]; exact z, fun p hp => new_lst l1 (dv.step f1) r1 q1 hp⟩, dx⟩⟩
end
end DL
namespace DL
open PySem PySem.Spec PyProof.Rows L2
/-! ### statements -/
section
variable {X : Cx} {W : WX} {st : Stmt} {rest : List Stmt} {e : Expr} {te : DTE} {t u : DTS} {pos : Pos}
def dSkip : DTS := fun D τ M => D.nx τ M
def dSeq (t u : DTS) : DTS := fun D τ M => t { D with nx := u D } τ M
theorem dss_nil : DSs X W [] dSkip := ⟨pss_imp pss_nil fun D σ H ⟨τ, M, Dd, sl, lm, q, ds⟩ => ds.nx σ H τ M (Fr.refl _ _) sl lm q⟩
theorem dss_one (h : DS X W st t) : DSs X W [st] t := ⟨pss_one h.ps⟩
theorem dss_cons (h1 : DS X W st t) (h2 : DSs X W rest u) : DSs X W (st :: rest) (dSeq t u) :=
  ⟨pss_imp (pss_cons h1.ps h2.ps) fun D σ H ⟨τ, M, Dd, sl, lm, q, ds⟩ => ⟨τ, M, { Dd with nx := u Dd }, sl, lm, q, ⟨fun σ' H' τ' M' f s' l' q' => ⟨τ', M', Dd, s', l', q', ds.step f⟩, ds.rt, ds.bk, ds.ct, ds.xx⟩⟩⟩
def dDrop (te : DTE) : DTS := fun D τ M => te τ M D.xx fun _ M1 => D.nx τ M1
theorem ds_expr (he : DE X W e te) (hs : swapsWith e none pos.line X.env = pure false := by rfl) : DS X W (.Expr e pos) (dDrop te) :=
  ⟨ps_imp (ps_expr he.pe hs) fun D σ H ⟨τ, M, Dd, sl, lm, q, ds⟩ => ⟨τ, M, Dd.xx, _, sl, lm, q, fun v H' d M' f l r q' => ds.nx σ H' τ M' f ((f.imm lm).slots sl) l q', ds.xx⟩⟩
theorem ds_doc {x j pos'} : DS X W (.Expr (.Constant (.str x) j pos) pos') dSkip := ⟨ps_imp ps_doc fun D σ H ⟨τ, M, Dd, sl, lm, q, ds⟩ => ds.nx σ H τ M (Fr.refl _ _) sl lm q⟩
theorem ds_pass : DS X W (.Pass pos) dSkip := ⟨ps_imp ps_pass fun D σ H ⟨τ, M, Dd, sl, lm, q, ds⟩ => ds.nx σ H τ M (Fr.refl _ _) sl lm q⟩
def dBreak : DTS := fun D τ M => D.bk τ M
def dCont : DTS := fun D τ M => D.ct τ M
theorem ds_break : DS X W (.Break pos) dBreak := ⟨ps_imp ps_break fun D σ H ⟨τ, M, Dd, sl, lm, q, ds⟩ => ds.bk σ H τ M (Fr.refl _ _) sl lm q⟩
theorem ds_continue : DS X W (.Continue pos) dCont := ⟨ps_imp ps_continue fun D σ H ⟨τ, M, Dd, sl, lm, q, ds⟩ => ds.ct σ H τ M (Fr.refl _ _) sl lm q⟩
def dRet (te : DTE) : DTS := fun D τ M => te τ M D.xx D.rt
theorem ds_ret (he : DE X W e te) : DS X W (.Return (some e) pos) (dRet te) :=
  ⟨ps_imp (ps_ret he.pe) fun D σ H ⟨τ, M, Dd, sl, lm, q, ds⟩ => ⟨τ, M, Dd.xx, _, sl, lm, q, ds.rt, ds.xx⟩⟩
def dRetN : DTS := fun D _ M => D.rt .non M
theorem ds_retN : DS X W (.Return none pos) dRetN := ⟨ps_imp ps_retN fun D σ H ⟨τ, M, Dd, sl, lm, q, ds⟩ => ds.rt _ _ .non _ (Fr.refl _ _) lm rfl q⟩
def dIf (c : DTT) (t u : DTS) : DTS := fun D τ M => c τ M D.xx fun b M1 => if b = true then t D τ M1 else u D τ M1
theorem ds_if {c : Expr} {a b : List Stmt} {tc : DTT} (hc : DT X W c tc) (ha : DSs X W a t) (hb : DSs X W b u) : DS X W (.If c a b pos) (dIf tc t u) :=
  ⟨ps_imp (ps_if hc.pt ha.ps hb.ps) fun D σ H ⟨τ, M, Dd, sl, lm, q, ds⟩ => ⟨τ, M, Dd.xx, _, sl, lm, q, fun k H1 M1 f1 l1 q1 => by
    cases k with
    | true => rw [if_pos rfl] at q1 ⊢; exact ⟨τ, M1, Dd, (f1.imm lm).slots sl, l1, q1, ds.step f1⟩
    | false => rw [if_neg Bool.false_ne_true] at q1 ⊢; exact ⟨τ, M1, Dd, (f1.imm lm).slots sl, l1, q1, ds.step f1⟩, ds.xx⟩⟩
def dNever : DTS := fun _ _ _ => False
theorem ds_never : DS X W st dNever := ⟨ps_imp ps_never fun D σ H ⟨τ, M, Dd, sl, lm, q, ds⟩ => q⟩
theorem dss_never {sts : List Stmt} : DSs X W sts dNever := ⟨pss_imp pss_never fun D σ H ⟨τ, M, Dd, sl, lm, q, ds⟩ => q⟩
end

/-! ### targets -/
abbrev DTG := D → DSt → MH → DXW → (DSt → MH → Prop) → Prop
abbrev DTGs := List D → DSt → MH → DXW → (DSt → MH → Prop) → Prop
/-- the other slots are as they were -/
def Off (vs : List Nat) (σ σ' : L2.St) : Prop := σ'.length = σ.length ∧ ∀ i, i ∉ vs → σ'[i]? = σ[i]?
theorem Off.refl (vs : List Nat) (σ : L2.St) : Off vs σ σ := ⟨rfl, fun _ _ => rfl⟩
theorem Off.trans {vs us : List Nat} {σ σ1 σ2 : L2.St} (a : Off vs σ σ1) (b : Off us σ1 σ2) : Off (vs ++ us) σ σ2 :=
  ⟨b.1.trans a.1, fun i h => (b.2 i fun z => h (List.mem_append_right _ z)).trans (a.2 i fun z => h (List.mem_append_left _ z))⟩
def DownG (P : Program) (w : World) (K : PySem.W.Frag) (vs : List Nat) (σ : L2.St) (M : MH) (H : Hp) (Qd : DSt → MH → Prop) (Q : L2.St → Hp → Prop) : Prop :=
  ∀ σ' H' τ' M', Off vs σ σ' → Fr M H M' H' → Slots K H' σ' τ' → LinkM P w K H' M' → Qd τ' M' → Q σ' H'
def liftG (P : Program) (w : World) (K : PySem.W.Frag) (W : WX) (us : List Nat) (g : DTG) : TG := fun v σ H Q => ∃ d τ M Ed Qd, Slots K H σ τ ∧ LinkM P w K H M ∧ Rep K H d v ∧ g d τ M Ed Qd ∧ DownG P w K us σ M H Qd Q ∧ DownX P w K M H Ed W
def liftGs (P : Program) (w : World) (K : PySem.W.Frag) (W : WX) (us : List Nat) (g : DTGs) : TGs := fun vs σ H Q => ∃ ds τ M Ed Qd, Slots K H σ τ ∧ LinkM P w K H M ∧ Reps K H ds vs ∧ g ds τ M Ed Qd ∧ DownG P w K us σ M H Qd Q ∧ DownX P w K M H Ed W
structure DG (X : Cx) (W : WX) (tg : Expr) (vs : List Nat) (t : DTG) : Prop where
  pg : PG X tg (liftG X.prog X.w X.K W vs t)
structure DGs (X : Cx) (W : WX) (ts : List Expr) (vs : List Nat) (t : DTGs) : Prop where
  pgs : PGs X ts (liftGs X.prog X.w X.K W vs t)
theorem pg_imp {X : Cx} {e : Expr} {t t' : TG} (h : PG X e t) (i : ∀ v σ H Q, t' v σ H Q → t v σ H Q) : PG X e t' := ⟨fun pins s σ H v u Q I r q => h.run pins s σ H v u Q I r (i v σ H Q q)⟩
theorem pgs_imp {X : Cx} {e : List Expr} {t t' : TGs} (h : PGs X e t) (i : ∀ v σ H Q, t' v σ H Q → t v σ H Q) : PGs X e t' := ⟨fun pins s σ H v u Q I r q => h.run pins s σ H v u Q I r (i v σ H Q q)⟩
section
variable {X : Cx} {W : WX} {e o i value : Expr} {te to ti tv : DTE} {pos : Pos}
def dgName (i : Nat) : DTG := fun d τ M _ Q => Q (τ.set i (some d)) M
theorem Slots.set {K : PySem.W.Frag} {H : Hp} {σ : L2.St} {τ : DSt} {i : Nat} {d : D} {v : V} (s : Slots K H σ τ) (r : Rep K H d v) : Slots K H (σ.set i (some v)) (τ.set i (some d)) := by
  refine ⟨by rw [List.length_set, List.length_set]; exact s.len, fun j d' h => ?_⟩
  by_cases hj : i = j
  · subst hj
    have hl : i < τ.length := by
      have := (List.getElem?_eq_some_iff.mp h).1
      rwa [List.length_set] at this
    rw [List.getElem?_set_self hl] at h
    cases h
    exact ⟨v, List.getElem?_set_self (by rw [← s.len]; exact hl), r⟩
  · rw [List.getElem?_set_ne hj] at h ⊢
    exact s.at_ j d' h
theorem Slots.unset {K : PySem.W.Frag} {H : Hp} {σ : L2.St} {τ : DSt} {i : Nat} (s : Slots K H σ τ) : Slots K H (σ.set i none) (τ.set i none) := by
  refine ⟨by rw [List.length_set, List.length_set]; exact s.len, fun j d' h => ?_⟩
  by_cases hj : i = j
  · subst hj
    have hl : i < τ.length := by
      have := (List.getElem?_eq_some_iff.mp h).1
      rwa [List.length_set] at this
    rw [List.getElem?_set_self hl] at h
    cases h
  · rw [List.getElem?_set_ne hj] at h ⊢
    exact s.at_ j d' h
theorem dg_name (i : Nat) {x : Str} (hN : X.N.Nodup) (hi : X.N[i]? = some x := by rfl) (hx : Loc X.env.scope x := by first | exact Or.inl rfl | exact Or.inr rfl) (hf : X.fn x = true ∨ X.env.scope.names.lookup x = some .local := by first | exact .inl rfl | exact .inr rfl | assumption) : DG X W (.Name x pos) [i] (dgName i) :=
  ⟨pg_imp (pg_name hN hi hx hf) fun v σ H Q ⟨d, τ, M, Ed, Qd, sl, lm, r, q, dn, dx⟩ => dn _ H _ M ⟨List.length_set, fun j hj => List.getElem?_set_ne (fun z => hj (by rw [z]; exact List.mem_singleton_self _))⟩ (Fr.refl _ _) (sl.set r) lm q⟩
def dgNil : DTGs := fun ds τ M _ Q => match ds with
  | [] => Q τ M
  | _ :: _ => False
def dgCons (t : DTG) (u : DTGs) : DTGs := fun ds τ M E Q => match ds with
  | [] => False
  | d :: r => t d τ M E fun τ' M' => u r τ' M' E Q
theorem dgs_nil : DGs X W [] [] dgNil := ⟨pgs_imp pgs_nil fun vs σ H Q ⟨ds, τ, M, Ed, Qd, sl, lm, r, q, dn, dx⟩ => by
  cases ds with
  | nil => exact ⟨r, dn σ H τ M (Off.refl _ _) (Fr.refl _ _) sl lm q⟩
  | cons _ _ => exact q.elim⟩
theorem dgs_cons {es : List Expr} {vs us : List Nat} {t : DTG} {u : DTGs} (h1 : DG X W e vs t) (h2 : DGs X W es us u)
    (hs : (assignEach (e :: es) X.env).map (·.2) = assign e X.env :: (assignEach es X.env).map (·.2) := by rfl) : DGs X W (e :: es) (vs ++ us) (dgCons t u) :=
  ⟨pgs_imp (pgs_cons h1.pg h2.pgs hs) fun vs σ H Q ⟨ds, τ, M, Ed, Qd, sl, lm, r, q, dn, dx⟩ => by
    cases ds with
    | nil => exact q.elim
    | cons d dr =>
      rw [Reps] at r
      obtain ⟨v, rr, e1, r1, r2⟩ := r
      exact ⟨v, rr, e1, d, τ, M, Ed, _, sl, lm, r1, q, fun σ' H' τ' M' o f s' l' q' => ⟨dr, τ', M', Ed, Qd, s', l', (f.imm lm).reps _ _ r2, q', fun σ2 H2 τ2 M2 o2 f2 s2 l2 q2 => dn σ2 H2 τ2 M2 (o.trans o2) (f.trans f2) s2 l2 q2, dx.step f⟩, dx⟩⟩
/-- (a, b, ..) = a tuple -/
def dgTup (n : Nat) (t : DTGs) : DTG := fun d τ M E Q => match d with
  | .tup ds => ds.length = n ∧ t ds τ M E Q
  | _ => False
theorem dg_tup {es : List Expr} {vs : List Nat} {k : Nat} {t : DTGs} {n : Nat} (hc : X.calm = true) (h : DGs X W es vs t)
    (hn : (assignEach es X.env).length = n := by rfl) (hst : (assignEach es X.env).findIdx? (·.1) = none := by rfl) : DG X W (.Tuple es k pos) vs (dgTup n t) :=
  ⟨pg_imp (pg_tup hc h.pgs hn hst) fun v σ H Q ⟨d, τ, M, Ed, Qd, sl, lm, r, q, dn, dx⟩ => by
    cases d with
    | tup ds =>
      rw [Rep] at r
      obtain ⟨a, vs, e, s, rs⟩ := r
      exact ⟨a, vs, e, s, by rw [rs.length]; exact q.1, ds, τ, M, Ed, Qd, sl, lm, rs, q.2, dn, dx⟩
    | _ => exact q.elim⟩
/-- o[i] = .. -/
abbrev DTSet := D → D → D → MH → (MH → Prop) → Prop
def liftSet (P : Program) (w : World) (K : PySem.W.Frag) (r : DTSet) : TSet := fun o i v H Q => ∃ od id vd M Qd, LinkM P w K H M ∧ Rep K H od o ∧ Rep K H id i ∧ Rep K H vd v ∧ r od id vd M Qd ∧
  ∀ H' M', Fr M H M' H' → LinkM P w K H' M' → Qd M' → Q H'
def DSet (X : Cx) (r : DTSet) : Prop := PSet X (liftSet X.prog X.w X.K r)
def dgSub (to ti : DTE) (t : DTSet) : DTG := fun v τ M E Q => to τ M E fun o M1 => ti τ M1 E fun i M2 => t o i v M2 fun M3 => Q τ M3
theorem dg_sub {r : DTSet} (ho : DE X W o to) (hi : DE X W i ti) (hs : DSet X r)
    (ha : ∀ v, assign (.Subscript o i pos) X.env v = (do
      let ov ← holding [v] (eval o X.env)
      let iv ← holding [v, ov] (eval i X.env)
      standAt pos
      holding [v, ov, iv] (setItem ov iv v)
      release [v, ov, iv] []) := by intro _; rfl) : DG X W (.Subscript o i pos) [] (dgSub to ti r) :=
  ⟨pg_imp (pg_sub ho.pe hi.pe hs ha) fun v σ H Q ⟨d, τ, M, Ed, Qd, sl, lm, rv, q, dn, dx⟩ =>
    ⟨τ, M, Ed, _, sl, lm, q, fun o H1 d1 M1 f1 l1 r1 q1 => ⟨τ, M1, Ed, _, (f1.imm lm).slots sl, l1, q1, fun i H2 d2 M2 f2 l2 r2 q2 =>
      ⟨d1, d2, d, M2, _, l2, (f2.imm l1).rep _ _ r1, r2, ((f1.trans f2).imm lm).rep _ _ rv, q2, fun H3 M3 f3 l3 q3 => dn σ H3 τ M3 (Off.refl _ _) (f1.trans (f2.trans f3)) (((f1.trans (f2.trans f3)).imm lm).slots sl) l3 q3⟩, dx.step f1⟩, dx⟩⟩
def dAsg (te : DTE) (g : DTG) : DTS := fun D τ M => te τ M D.xx fun x M1 => g x τ M1 D.xx D.nx
theorem lift_asg {P : Program} {w : World} {K : PySem.W.Frag} {vs : List Nat} {g : DTG} {D : Ends} {σ : L2.St} {H : Hp} (h : liftS P w K W (dAsg te g) D σ H) : tAsg (liftE P w K W te) (liftG P w K W vs g) D σ H := by
  obtain ⟨τ, M, Dd, sl, lm, q, ds⟩ := h
  exact ⟨τ, M, Dd.xx, _, sl, lm, q, fun v H1 d M1 f l r q1 => ⟨d, τ, M1, Dd.xx, Dd.nx, (f.imm lm).slots sl, l, r, q1, fun σ2 H2 τ2 M2 _ f2 s2 l2 q2 => ds.nx σ2 H2 τ2 M2 (f.trans f2) s2 l2 q2, ds.xx.step f⟩, ds.xx⟩
theorem ds_asg {tg : Expr} {vs : List Nat} {g : DTG} (he : DE X W e te) (hg : DG X W tg vs g) (hs : swapsWithSole [tg] e pos.line X.env = pure false := by rfl) (hw : swappedStores [tg] e X.env = pure none := by rfl)
    (h1 : (assignEach [tg] X.env).map (·.2) = [assign tg X.env] := by rfl) : DS X W (.Assign [tg] e pos) (dAsg te g) := ⟨ps_imp (ps_asg he.pe hg.pg hs hw h1) fun D σ H h => lift_asg h⟩
theorem ds_set (i : Nat) {x : Str} {pos' : Pos} (hN : X.N.Nodup) (he : DE X W e te) (hi : X.N[i]? = some x := by rfl) (hx : Loc X.env.scope x := by first | exact Or.inl rfl | exact Or.inr rfl) (hs : swapsWith e (some (.Name x pos')) pos.line X.env = pure false := by rfl) (hf : X.fn x = true ∨ X.env.scope.names.lookup x = some .local := by first | exact .inl rfl | exact .inr rfl | assumption) :
    DS X W (.Assign [.Name x pos'] e pos) (dAsg te (dgName i)) := ⟨ps_imp (ps_set hN hi hx he.pe hs hf) fun D σ H ⟨τ, M, Dd, sl, lm, q, ds⟩ =>
      ⟨τ, M, Dd.xx, _, sl, lm, q, fun v H1 d M1 f l r q1 => ds.nx _ H1 _ M1 f (((f.imm lm).slots sl).set r) l q1, ds.xx⟩⟩
/-- a, b = x, y with plain local names -/
def dPar (i j : Nat) (ta : DTA) : DTS := fun D τ M => ta τ M D.xx fun ds M1 => match ds with
  | [v, u] => D.nx ((τ.set i (some v)).set j (some u)) M1
  | _ => False
theorem ds_par (i j : Nat) {x y : Str} {a b : Expr} {ta : DTA} {px py pt : Pos} {kt k2 pt2} (hc : X.calm = true) (hN : X.N.Nodup) (ha : DA X W [a, b] ta) (hi : X.N[i]? = some x := by rfl) (hj : X.N[j]? = some y := by rfl) (hij : i ≠ j := by decide)
    (hx : X.env.scope.names.lookup x = some .local := by rfl) (hy : X.env.scope.names.lookup y = some .local := by rfl)
    (hw : swappedStores [.Tuple [.Name x px, .Name y py] kt pt] (.Tuple [a, b] k2 pt2) X.env = pure (some [x, y]) := by rfl)
    (hs : swapsWithSole [.Tuple [.Name x px, .Name y py] kt pt] (.Tuple [a, b] k2 pt2) pos.line X.env = pure false := by rfl) :
    DS X W (.Assign [.Tuple [.Name x px, .Name y py] kt pt] (.Tuple [a, b] k2 pt2) pos) (dPar i j ta) := ⟨ps_imp (ps_par hc hN hi hj hij hx hy ha.pa hw hs) fun D σ H ⟨τ, M, Dd, sl, lm, q, ds⟩ =>
      ⟨τ, M, Dd.xx, _, sl, lm, q, fun vs H1 dd M1 f l r q1 => by
        match dd, q1 with
        | [d1, d2], q1 =>
          simp only [Reps] at r
          obtain ⟨v, rr, rfl, r1, u, r3, rfl, r2, rfl⟩ := r
          exact ⟨v, u, rfl, ds.nx _ H1 _ M1 f ((((f.imm lm).slots sl).set r1).set r2) l q1⟩, ds.xx⟩⟩
/-- name op= e -/
def dAug (i : Nat) (te : DTE) (r : DR2) : DTS := fun D τ M => match τ[i]? with
  | some (some x) => te τ M D.xx fun y M1 => r x y M1 fun z M2 => D.nx (τ.set i (some z)) M2
  | _ => False
theorem ds_aug (i : Nat) {x : Str} {op : Operator} {r : DR2} {pos' : Pos} (hN : X.N.Nodup) (he : DE X W e te) (ho : DOp X (inplaceOp op) r) (hi : X.N[i]? = some x := by rfl) (hx : Loc X.env.scope x := by first | exact Or.inl rfl | exact Or.inr rfl) (hf : X.fn x = true ∨ X.env.scope.names.lookup x = some .local := by first | exact .inl rfl | exact .inr rfl | assumption) :
    DS X W (.AugAssign (.Name x pos') op e pos) (dAug i te r) := ⟨ps_imp (ps_aug hN hi hx he.pe (ti := liftR2 X.prog X.w X.K r) (fun pins s σ H x y v u Q I r1 r2 q => ho pins s σ H x y v u Q I r1 r2 q) hf) fun D σ H ⟨τ, M, Dd, sl, lm, q, ds⟩ => by
      unfold dAug at q
      split at q
      · rename_i d e1
        obtain ⟨v, h1, h2⟩ := sl.at_ i d e1
        exact ⟨v, h1, τ, M, Dd.xx, _, sl, lm, q, fun y H1 d1 M1 f l r1 q1 => ⟨d, d1, M1, _, l, (f.imm lm).rep _ _ h2, r1, q1, fun z H2 d2 M2 f2 l2 r2 q2 =>
          ds.nx _ H2 _ M2 (f.trans f2) ((((f.trans f2).imm lm).slots sl).set r2) l2 q2⟩, ds.xx⟩
      · exact q.elim⟩
end

/-! ### loops -/
/-- less is known: slots, objects -/
def SLe (τ0 τ : DSt) : Prop := τ0.length = τ.length ∧ ∀ (i : Nat) d, τ0[i]? = some (some d) → τ[i]? = some (some d)
theorem SLe.refl (τ : DSt) : SLe τ τ := ⟨rfl, fun _ _ h => h⟩
theorem Slots.less {K : PySem.W.Frag} {H : Hp} {σ : L2.St} {τ τ0 : DSt} (s : Slots K H σ τ) (l : SLe τ0 τ) : Slots K H σ τ0 := ⟨l.1.trans s.len, fun i d h => s.at_ i d (l.2 i d h)⟩
def Up (R : DSt → MH → Prop) : DSt → MH → Prop := fun τ M => ∃ τ0 M0, SLe τ0 τ ∧ MLe M0 M ∧ R τ0 M0
theorem Up.of {R : DSt → MH → Prop} {τ : DSt} {M : MH} (h : R τ M) : Up R τ M := ⟨τ, M, SLe.refl _, MLe.refl _, h⟩
/-- the while: at most n turns -/
def dWh (c : DTT) (tb : DTS) (D : DEnds) : Nat → DSt → MH → Prop
  | 0 => fun _ _ => False
  | n + 1 => fun τ M => c τ M D.xx fun b M1 => if b = true then tb { D with nx := Up (dWh c tb D n), ct := Up (dWh c tb D n), bk := D.nx } τ M1 else D.nx τ M1
def dWhile (c : DTT) (tb : DTS) : DTS := fun D τ M => ∃ n, dWh c tb D n τ M
section
variable {X : Cx} {W : WX} {pos : Pos}
theorem ds_while {c : Expr} {body : List Stmt} {tc : DTT} {tb : DTS} (hp : PassesOwn (model X.prog X.w) X.A X.env X.xe) (hc : DT X W c tc) (hb : DSs X W body tb) : DS X W (.While c body [] pos) (dWhile tc tb) :=
  ⟨ps_imp (ps_while hp hc.pt hb.ps) fun D σ H ⟨τ, M, Dd, sl, lm, ⟨n0, q⟩, ds⟩ => by
    refine ⟨fun n σ' H' => ∃ τ' M', Slots X.K H' σ' τ' ∧ LinkM X.prog X.w X.K H' M' ∧ Fr M H M' H' ∧ dWh tc tb Dd n τ' M', ⟨n0, τ, M, sl, lm, Fr.refl _ _, q⟩, fun n σ1 H1 ⟨τ1, M1, s1, l1, f1, q1⟩ => ?_⟩
    cases n with
    | zero => exact q1.elim
    | succ n =>
      have ds1 := ds.step f1
      refine ⟨τ1, M1, Dd.xx, _, s1, l1, q1, fun b H2 M2 f2 l2 q2 => ?_, ds1.xx⟩
      cases b with
      | true =>
        rw [if_pos rfl] at q2 ⊢
        refine ⟨fun σ' H' => ∃ τ' M', Slots X.K H' σ' τ' ∧ LinkM X.prog X.w X.K H' M' ∧ Fr M H M' H' ∧ dWh tc tb Dd n τ' M', fun σ' H' h => ⟨n, Nat.lt_succ_self n, h⟩, ?_⟩
        have again : DownN X.prog X.w X.K M2 H2 (Up (dWh tc tb Dd n)) (fun σ' H' => ∃ τ' M', Slots X.K H' σ' τ' ∧ LinkM X.prog X.w X.K H' M' ∧ Fr M H M' H' ∧ dWh tc tb Dd n τ' M') :=
          fun σ' H' τ' M' f s' l' ⟨τ0, M0, sle, mle, q'⟩ => ⟨τ0, M0, s'.less sle, l'.less mle, (f1.trans (f2.trans f)).less mle, q'⟩
        exact ⟨τ1, M2, _, (f2.imm l1).slots s1, l2, q2, ⟨again, (ds1.step f2).rt, (ds1.step f2).nx, again, (ds1.step f2).xx⟩⟩
      | false =>
        rw [if_neg Bool.false_ne_true] at q2 ⊢
        exact ds1.nx _ _ _ _ f2 ((f2.imm l1).slots s1) l2 q2⟩
end
/-- what a loop goes over: a fixed row of data, as long as 'keep' holds -/
abbrev DTI := DSt → MH → DXW → (List D → (MH → Prop) → MH → Prop) → Prop
def dFor1 (g : DTG) (tb : DTS) (Dd : DEnds) (keep : MH → Prop) : List D → DSt → MH → Prop
  | [] => fun τ M => keep M ∧ Dd.nx τ M
  | d :: ds => fun τ M => keep M ∧ g d τ M Dd.xx fun τ2 M2 => tb { Dd with nx := Up (dFor1 g tb Dd keep ds), ct := Up (dFor1 g tb Dd keep ds), bk := Dd.nx } τ2 M2
def dFor (wi : DTI) (g : DTG) (tb : DTS) : DTS := fun Dd τ M => wi τ M Dd.xx fun ds keep M1 => dFor1 g tb Dd keep ds τ M1
/-- the iterator goes over these data -/
def ItOk (P : Program) (w : World) (K : PySem.W.Frag) (J : It) (ds : List D) (keep : MH → Prop) (M1 : MH) (H1 : Hp) : Prop :=
  ∀ (i : Nat) M2 H2, Fr M1 H1 M2 H2 → LinkM P w K H2 M2 → keep M2 →
    (∀ d, ds[i]? = some d → J.go i H2 ∧ ∀ x H3, J.yld i H2 x H3 → Rep K H3 d x ∧ Fr M2 H2 M2 H3 ∧ LinkM P w K H3 M2) ∧ (ds[i]? = none → J.stop i H2)
def liftI (P : Program) (w : World) (K : PySem.W.Frag) (W : WX) (wi : DTI) : TI := fun σ H R => ∃ τ M Ed Kd, Slots K H σ τ ∧ LinkM P w K H M ∧ wi τ M Ed Kd ∧ DownX P w K M H Ed W ∧
  ∀ J H' ds keep M', Fr M H M' H' → LinkM P w K H' M' → ItOk P w K J ds keep M' H' → Kd ds keep M' → R J H'
structure DI (X : Cx) (W : WX) (tg iter : Expr) (wi : DTI) : Prop where
  pi : PI X tg iter (liftI X.prog X.w X.K W wi)
theorem pi_imp {X : Cx} {tg iter : Expr} {t t' : TI} (h : PI X tg iter t) (i : ∀ σ H R, t' σ H R → t σ H R) : PI X tg iter t' := ⟨fun pins s σ H R I q => h.run pins s σ H R I (i σ H R q)⟩
section
variable {X : Cx} {W : WX} {pos : Pos}
theorem ds_for {tg iter : Expr} {body : List Stmt} {wi : DTI} {vs : List Nat} {g : DTG} {tb : DTS} (hp : PassesOwn (model X.prog X.w) X.A X.env X.xe) (hc : X.calm = true) (hi : DI X W tg iter wi) (hg : DG X W tg vs g) (hb : DSs X W body tb)
    (hs : ∀ x, foldedSetIterable iter X.env x = pure x := by intro _; rfl) : DS X W (.For tg iter body [] pos) (dFor wi g tb) :=
  ⟨ps_imp (ps_for hp hc hi.pi hg.pg hb.ps hs) fun D σ H ⟨τ, M, Dd, sl, lm, q, ds⟩ => by
    refine ⟨τ, M, Dd.xx, _, sl, lm, q, ds.xx, fun J H1 items keep M1 f1 l1 ok q1 => ?_⟩
    have ds1 := ds.step f1
    refine ⟨fun i m σ' H' => ∃ τ' M', Slots X.K H' σ' τ' ∧ LinkM X.prog X.w X.K H' M' ∧ Fr M1 H1 M' H' ∧ i + m = items.length ∧ dFor1 g tb Dd keep (items.drop i) τ' M',
      ⟨items.length, τ, M1, (f1.imm lm).slots sl, l1, Fr.refl _ _, Nat.zero_add _, q1⟩, fun i m σ2 H2 ⟨τ2, M2, s2, l2, f2, hm, q2⟩ => ?_⟩
    cases e : items.drop i with
    | nil =>
      rw [e] at q2
      obtain ⟨kp, q2⟩ := q2
      have hl : items.length ≤ i := List.drop_eq_nil_iff.mp e
      exact .inl ⟨(ok i M2 H2 f2 l2 kp).2 (List.getElem?_eq_none hl), ds1.nx _ _ _ _ f2 s2 l2 q2⟩
    | cons d r =>
      rw [e] at q2
      obtain ⟨kp, q2⟩ := q2
      have hd : items[i]? = some d := by
        have := congrArg List.head? e
        rwa [List.head?_drop, List.head?_cons] at this
      have hr : items.drop (i + 1) = r := by
        have := congrArg List.tail e
        rwa [List.tail_drop, List.tail_cons] at this
      have hlt : i < items.length := (List.getElem?_eq_some_iff.mp hd).1
      obtain ⟨go, yl⟩ := (ok i M2 H2 f2 l2 kp).1 d hd
      refine .inr ⟨go, fun σ' H' => ∃ τ' M', Slots X.K H' σ' τ' ∧ LinkM X.prog X.w X.K H' M' ∧ Fr M1 H1 M' H' ∧ dFor1 g tb Dd keep (items.drop (i + 1)) τ' M', fun σ' H' ⟨τ', M', a, b, c, d'⟩ => ⟨m - 1, by omega, τ', M', a, b, c, by omega, d'⟩, fun x H3 y => ?_⟩
      obtain ⟨rx, f3, l3⟩ := yl x H3 y
      have f13 := f2.trans f3
      refine ⟨d, τ2, M2, Dd.xx, _, (f3.imm l2).slots s2, l3, rx, q2, fun σ4 H4 τ4 M4 _ f4 s4 l4 q4 => ?_, ds1.xx.step f13⟩
      have f14 := f13.trans f4
      have ds4 := ds1.step f14
      have again : DownN X.prog X.w X.K M4 H4 (Up (dFor1 g tb Dd keep r)) (fun σ' H' => ∃ τ' M', Slots X.K H' σ' τ' ∧ LinkM X.prog X.w X.K H' M' ∧ Fr M1 H1 M' H' ∧ dFor1 g tb Dd keep (items.drop (i + 1)) τ' M') :=
        fun σ' H' τ' M' f s' l' ⟨τ0, M0, sle, mle, q'⟩ => ⟨τ0, M0, s'.less sle, l'.less mle, (f14.trans f).less mle, by rw [hr]; exact q'⟩
      exact ⟨τ4, M4, _, s4, l4, q4, ⟨again, ds4.rt, ds4.nx, again, ds4.xx⟩⟩⟩
end
end DL
namespace DL
open PySem PySem.Spec PyProof.Rows L2
/-! ### what is walked -/
theorem Reps.get {K : PySem.W.Frag} {H : Hp} : ∀ {ds : List D} {vs : List V} {i : Nat} {d : D}, Reps K H ds vs → ds[i]? = some d → ∃ v, vs[i]? = some v ∧ Rep K H d v
  | [], _, _, _, _, h => by simp at h
  | d :: ds, _, 0, _, r, h => by
    rw [Reps] at r
    obtain ⟨v, rr, e, r1, _⟩ := r
    simp at h; subst h; subst e
    exact ⟨v, rfl, r1⟩
  | d :: ds, _, i + 1, _, r, h => by
    rw [Reps] at r
    obtain ⟨v, rr, e, _, r2⟩ := r
    subst e
    simpa using Reps.get (i := i) r2 (by simpa using h)
theorem Reps.none_of {K : PySem.W.Frag} {H : Hp} {ds : List D} {vs : List V} {i : Nat} (r : Reps K H ds vs) (h : ds[i]? = none) : vs.length ≤ i := by
  rw [r.length]; exact List.getElem?_eq_none_iff.mp h
theorem Reps.append {K : PySem.W.Frag} {H : Hp} : ∀ {ds es : List D} {vs us : List V}, Reps K H ds vs → Reps K H es us → Reps K H (ds ++ es) (vs ++ us)
  | [], _, _, _, r, s => by rw [Reps] at r; subst r; exact s
  | d :: ds, _, _, _, r, s => by
    rw [Reps] at r
    obtain ⟨v, rr, e, r1, r2⟩ := r
    subst e
    exact ⟨v, _, rfl, r1, Reps.append r2 s⟩
theorem Reps.one {K : PySem.W.Frag} {H : Hp} {d : D} {v : V} (r : Rep K H d v) : Reps K H [d] [v] := ⟨v, [], rfl, r, rfl⟩
def charD (c : Nat) : D := .str ⟨#[c]⟩
/-- the items of a value that is walked -/
def itemsOf (x : D) (M : MH) (k : List D → (MH → Prop) → Prop) : Prop := match x with
  | .tup ds => k ds fun _ => True
  | .rol ds => k ds fun _ => True
  | .str z => k (z.cps.toList.map charD) fun _ => True
  | .ref a => match M a with
    | some (.lst ds) => k ds fun M => M a = some (.lst ds)
    | _ => False
  | _ => False
section
variable {X : Cx} {W : WX} {tg e : Expr} {te : DTE} {pos : Pos}
theorem pi_any {t : TE} (he : PE X e t) : PI X tg e (fun σ H R => t σ H fun x H1 => (∃ a xs, x = .ref a ∧ SqL X.K H1 a xs ∧ R (Itl X.K a) H1) ∨ (∃ a xs, x = .ref a ∧ SqT X.K H1 a xs ∧ R (Itt X.K a) H1) ∨ ∃ z, x = .str z ∧ R (Its z) H1) := by
  refine ⟨fun pins s σ H R I h => ?_⟩
  refine thn (he.run pins s σ H _ I h) fun v s1 ⟨x, H1, I1, r1, q1⟩ => ?_
  rcases q1 with ⟨a, xs, ex, hq, q⟩ | ⟨a, xs, ex, hq, q⟩ | ⟨z, ex, q⟩
  · subst ex
    cases r1
    obtain ⟨its, rv, p, hz⟩ := I1.list hq
    refine wpAny_pyIter_list p.isList ?_
    refine ⟨s1.heap.objs.size, [s1.heap.objs.size], _, _, H1, rfl, I1.kept (t' := s1.toks) fun b o e => Heap.get?_push_of_some _ e, turn_list a _, ⟨_, Heap.get?_push_size _ rfl, rfl, rfl⟩, fun b hb => ?_, q⟩
    have e : b = s1.heap.objs.size := by simpa using hb
    subst e
    exact I1.fpOk (Nat.le_refl _) (I1.hok.fresh (Nat.le_refl _))
  · subst ex
    cases r1
    obtain ⟨its, rv, p, hz⟩ := I1.tuple hq
    refine wpAny_pyIter_tuple (show s1.heap.IsTuple a its.toArray from p) ?_
    refine ⟨s1.heap.objs.size, [s1.heap.objs.size], _, _, H1, rfl, I1.kept (t' := s1.toks) fun b o e => Heap.get?_push_of_some _ e, turn_tuple a _, ⟨_, Heap.get?_push_size _ rfl, rfl, rfl⟩, fun b hb => ?_, q⟩
    have e : b = s1.heap.objs.size := by simpa using hb
    subst e
    exact I1.fpOk (Nat.le_refl _) (I1.hok.fresh (Nat.le_refl _))
  · subst ex
    obtain ⟨t, rfl⟩ := r1
    cases ha : z.cps.all (· < 128)
    · exact wpAny_pyIter_wide ha (pi_one (tk := s1.toks) I1 _ (turn_str _ z t "str_iterator" (.inr rfl)) ⟨_, Heap.get?_push_size _ rfl, rfl, rfl⟩ q)
    · exact wpAny_pyIter_ascii ha (pi_one (tk := s1.toks) I1 _ (turn_str _ z t "str_ascii_iterator" (.inl rfl)) ⟨_, Heap.get?_push_size _ rfl, rfl, rfl⟩ q)
def diSeq (te : DTE) : DTI := fun τ M E k => te τ M E fun x M1 => itemsOf x M1 fun ds keep => k ds keep M1
section
variable {P : Program} {w : World} {K : PySem.W.Frag} {M : MH} {H : Hp} {a : Addr} {ds : List D} {vs : List V}
theorem itOk_tup (lm : LinkM P w K H M) (s : SqT K H a vs) (r : Reps K H ds vs) (keep : MH → Prop) : ItOk P w K (Itt K a) ds keep M H := fun i M2 H2 f l _ => by
  have i2 := f.imm lm
  refine ⟨fun d hd => ?_, fun hn => ⟨vs, i2.sqT s, r.none_of hn⟩⟩
  obtain ⟨v, hv, rv⟩ := Reps.get (i2.reps _ _ r) hd
  refine ⟨⟨vs, v, i2.sqT s, hv⟩, fun x H3 ⟨e, y⟩ => ?_⟩
  subst e
  have := y vs (i2.sqT s)
  rw [hv] at this; cases this
  exact ⟨rv, Fr.refl _ _, l⟩
theorem itOk_rol (lm : LinkM P w K H M) (s : RoL K H a vs) (r : Reps K H ds vs) (keep : MH → Prop) : ItOk P w K (Itl K a) ds keep M H := fun i M2 H2 f l _ => by
  have i2 := f.imm lm
  refine ⟨fun d hd => ?_, fun hn => ⟨vs, (i2.roL s).sq, r.none_of hn⟩⟩
  obtain ⟨v, hv, rv⟩ := Reps.get (i2.reps _ _ r) hd
  refine ⟨⟨vs, v, (i2.roL s).sq, hv⟩, fun x H3 ⟨e, y⟩ => ?_⟩
  subst e
  have := y vs (i2.roL s).sq
  rw [hv] at this; cases this
  exact ⟨rv, Fr.refl _ _, l⟩
theorem itOk_lst : ItOk P w K (Itl K a) ds (fun M => M a = some (.lst ds)) M H := fun i M2 H2 f l kp => by
  obtain ⟨vs, hv, r⟩ := l a _ kp
  refine ⟨fun d hd => ?_, fun hn => ⟨vs, .inl (.inl hv), r.none_of hn⟩⟩
  obtain ⟨v, h1, rv⟩ := Reps.get r hd
  refine ⟨⟨vs, v, .inl (.inl hv), h1⟩, fun x H3 ⟨e, y⟩ => ?_⟩
  subst e
  have := y vs (.inl (.inl hv))
  rw [h1] at this; cases this
  exact ⟨rv, Fr.refl _ _, l⟩
theorem itOk_str {z : Str} (keep : MH → Prop) : ItOk P w K (Its z) (z.cps.toList.map charD) keep M H := fun i M2 H2 f l _ => by
  refine ⟨fun d hd => ?_, fun hn => ?_⟩
  · rw [List.getElem?_map, Array.getElem?_toList] at hd
    cases e : z.cps[i]? with
    | none => rw [e] at hd; simp at hd
    | some c =>
      rw [e] at hd
      have hd' : charD c = d := Option.some.inj hd
      subst hd'
      refine ⟨(Array.getElem?_eq_some_iff.mp e).1, fun x H3 ⟨e3, c', h1, h2⟩ => ?_⟩
      subst e3
      rw [e] at h1; cases h1
      exact ⟨h2, Fr.refl _ _, l⟩
  · rw [List.getElem?_map, Array.getElem?_toList] at hn
    show z.cps.size ≤ i
    cases e : z.cps[i]? with
    | none => exact Array.getElem?_eq_none_iff.mp e
    | some c => rw [e] at hn; simp at hn
theorem itOk_rng {lo : Int} {n : Nat} (keep : MH → Prop) : ItOk P w K (Itr lo n) ((List.range n).map fun (i : Nat) => D.int (lo + i)) keep M H := fun i M2 H2 f l _ => by
  refine ⟨fun d hd => ?_, fun hn => ?_⟩
  · rw [List.getElem?_map] at hd
    by_cases hi : i < n
    · rw [List.getElem?_range hi] at hd
      have hd' : D.int (lo + i) = d := Option.some.inj hd
      subst hd'
      refine ⟨hi, fun x H3 ⟨e3, h⟩ => ?_⟩
      subst e3
      exact ⟨h, Fr.refl _ _, l⟩
    · rw [List.getElem?_eq_none (by rw [List.length_range]; omega)] at hd
      cases hd
  · rw [List.getElem?_map] at hn
    show n ≤ i
    by_cases hi : i < n
    · rw [List.getElem?_range hi] at hn
      cases hn
    · omega
end
theorem di_seq (he : DE X W e te) : DI X W tg e (diSeq te) := ⟨pi_imp (pi_any he.pe) fun σ H R ⟨τ, M, Ed, Kd, sl, lm, q, dx, kk⟩ => ⟨τ, M, Ed, _, sl, lm, q, fun v H1 d M1 f1 l1 r1 q1 => by
  cases d with
  | tup ds =>
    rw [Rep] at r1
    obtain ⟨a, vs, e, s, rs⟩ := r1
    exact .inr (.inl ⟨a, vs, e, s, kk _ _ ds _ M1 f1 l1 (itOk_tup l1 s rs _) q1⟩)
  | rol ds =>
    rw [Rep] at r1
    obtain ⟨a, vs, e, s, rs⟩ := r1
    exact .inl ⟨a, vs, e, s.sq, kk _ _ ds _ M1 f1 l1 (itOk_rol l1 s rs _) q1⟩
  | str z => exact .inr (.inr ⟨z, r1, kk _ _ _ _ M1 f1 l1 (itOk_str _) q1⟩)
  | ref a =>
    simp only [itemsOf] at q1
    split at q1
    · rename_i ds hm
      obtain ⟨vs, hv, r⟩ := l1 a _ hm
      exact .inl ⟨a, vs, r1, .inl (.inl hv), kk _ _ ds _ M1 f1 l1 itOk_lst q1⟩
    · exact q1.elim
  | _ => exact q1.elim, dx⟩⟩
/-- range(n), range(a, b) -/
def diRng1 (ta : DTA) : DTI := fun τ M E k => ta τ M E fun ds M1 => match ds with
  | [.int j] => -(2 ^ 62) ≤ j ∧ j < 2 ^ 62 ∧ k ((List.range j.toNat).map fun (i : Nat) => D.int (0 + i)) (fun _ => True) M1
  | _ => False
def diRng2 (ta : DTA) : DTI := fun τ M E k => ta τ M E fun ds M1 => match ds with
  | [.int i, .int j] => (-(2 ^ 62) ≤ i ∧ i < 2 ^ 62 ∧ -(2 ^ 62) ≤ j ∧ j < 2 ^ 62) ∧ k ((List.range (j - i).toNat).map fun (n : Nat) => D.int (i + n)) (fun _ => True) M1
  | _ => False
variable {a b : Expr} {ta : DTA} {p : Pos}
theorem di_range1 (hm : X.mg "range" = none) (ha : DA X W [a] ta) (hg : Gl X "range" := by rfl) (hs : starEach [a] X.env = [(false, eval a X.env)] := by rfl) : DI X W tg (.Call (.Name "range" p) [a] [] pos) (diRng1 ta) :=
  ⟨pi_imp (pi_range1 hg hm ha.pa hs) fun σ H R ⟨τ, M, Ed, Kd, sl, lm, q, dx, kk⟩ => ⟨τ, M, Ed, _, sl, lm, q, fun vs H1 ds M1 f1 l1 r1 q1 => by
    match ds, q1 with
    | [.int j], q1 =>
      simp only [Reps, Rep] at r1
      obtain ⟨v, r, rfl, rfl, rfl⟩ := r1
      exact ⟨j, rfl, q1.1, q1.2.1, kk _ _ _ _ M1 f1 l1 (itOk_rng _) q1.2.2⟩, dx⟩⟩
theorem di_range2 (hm : X.mg "range" = none) (ha : DA X W [a, b] ta) (hg : Gl X "range" := by rfl) (hs : starEach [a, b] X.env = [(false, eval a X.env), (false, eval b X.env)] := by rfl) (hs2 : starEach [b] X.env = [(false, eval b X.env)] := by rfl) : DI X W tg (.Call (.Name "range" p) [a, b] [] pos) (diRng2 ta) :=
  ⟨pi_imp (pi_range2 hg hm ha.pa hs hs2) fun σ H R ⟨τ, M, Ed, Kd, sl, lm, q, dx, kk⟩ => ⟨τ, M, Ed, _, sl, lm, q, fun vs H1 ds M1 f1 l1 r1 q1 => by
    match ds, q1 with
    | [.int i, .int j], q1 =>
      simp only [Reps, Rep] at r1
      obtain ⟨v, r, rfl, rfl, v2, r2, rfl, rfl, rfl⟩ := r1
      exact ⟨i, j, rfl, q1.1, kk _ _ _ _ M1 f1 l1 (itOk_rng _) q1.2⟩, dx⟩⟩
/-- zip of two tuples, of two lists -/
def seqL (x : D) (M : MH) (k : List D → (MH → Prop) → Prop) : Prop := match x with
  | .rol ds => k ds fun _ => True
  | .ref a => match M a with
    | some (.lst ds) => k ds fun M => M a = some (.lst ds)
    | _ => False
  | _ => False
def zipD (xs ys : List D) : List D := List.zipWith (fun a b => .tup [a, b]) xs ys
def zipOf (x y : D) (M : MH) (k : List D → (MH → Prop) → MH → Prop) : Prop := match x with
  | .tup xs => match y with
    | .tup ys => k (zipD xs ys) (fun _ => True) M
    | _ => False
  | _ => seqL x M fun xs k1 => seqL y M fun ys k2 => k (zipD xs ys) (fun M => k1 M ∧ k2 M) M
def diZip (ta : DTA) : DTI := fun τ M E k => ta τ M E fun ds M1 => match ds with
  | [x, y] => zipOf x y M1 k
  | _ => False
section
variable {P : Program} {w : World} {K : PySem.W.Frag} {M : MH} {H : Hp}
/-- a list that is read -/
theorem seqL_read {x : D} {v : V} {k : List D → (MH → Prop) → Prop} (lm : LinkM P w K H M) (r : Rep K H x v) (h : seqL x M k) :
    ∃ a ds kp, v = .ref a ∧ k ds kp ∧ (∃ vs, SqL K H a vs) ∧ ∀ M2 H2, Fr M H M2 H2 → LinkM P w K H2 M2 → kp M2 → ∃ vs, SqL K H2 a vs ∧ Reps K H2 ds vs := by
  cases x with
  | rol ds =>
    rw [Rep] at r
    obtain ⟨a, vs, e, s, rs⟩ := r
    exact ⟨a, ds, _, e, h, ⟨vs, s.sq⟩, fun M2 H2 f l _ => ⟨vs, ((f.imm lm).roL s).sq, (f.imm lm).reps _ _ rs⟩⟩
  | ref a =>
    simp only [seqL] at h
    split at h
    · rename_i ds hm
      obtain ⟨vs, hv, rr⟩ := lm a _ hm
      exact ⟨a, ds, _, r, h, ⟨vs, .inl (.inl hv)⟩, fun M2 H2 f l kp => let ⟨vs, hv, rr⟩ := l a _ kp; ⟨vs, .inl (.inl hv), rr⟩⟩
    · exact h.elim
  | _ => exact h.elim
theorem zipD_get {xs ys : List D} {i : Nat} {d : D} (h : (zipD xs ys)[i]? = some d) : ∃ x y, xs[i]? = some x ∧ ys[i]? = some y ∧ d = .tup [x, y] := by
  unfold zipD at h
  rw [List.getElem?_zipWith] at h
  cases e1 : xs[i]? with
  | none => rw [e1] at h; simp at h
  | some x =>
    cases e2 : ys[i]? with
    | none => rw [e1, e2] at h; simp at h
    | some y =>
      rw [e1, e2] at h
      exact ⟨x, y, rfl, rfl, (Option.some.inj h).symm⟩
theorem zipD_none {xs ys : List D} {i : Nat} (h : (zipD xs ys)[i]? = none) : xs.length ≤ i ∨ ys.length ≤ i := by
  have := List.getElem?_eq_none_iff.mp h
  unfold zipD at this
  rw [List.length_zipWith] at this
  omega
theorem new_pair {x y : D} {u v : V} {T : Addr} (lm : LinkM P w K H M) (hT : H T = none) (r1 : Rep K H x u) (r2 : Rep K H y v) :
    Rep K (L2.upd H T (.tup [u, v])) (.tup [x, y]) (.ref T) ∧ Fr M H M (L2.upd H T (.tup [u, v])) ∧ LinkM P w K (L2.upd H T (.tup [u, v])) M := by
  obtain ⟨l, f⟩ := lm.add (u := .tup [u, v]) hT
  have i := immNew (u := .tup [u, v]) hT
  exact ⟨⟨T, [u, v], rfl, .inl (.inl upd_same), u, [v], rfl, i.rep _ _ r1, v, [], rfl, i.rep _ _ r2, rfl⟩, f, l⟩
end
theorem di_zip {e2 : Expr} {tpos : Pos} {elts : List Expr} {kk : Nat} (hm : X.mg "zip" = none) (ha : DA X W [e, e2] ta) (hg : Gl X "zip" := by rfl)
    (hs : starEach [e, e2] X.env = (false, eval e X.env) :: starEach [e2] X.env := by rfl) (hpl : (backTo pos (starEach [e2] X.env)).any (·.1) = false := by rfl) :
    DI X W (.Tuple elts kk tpos) (.Call (.Name "zip" p) [e, e2] [] pos) (diZip ta) :=
  ⟨pi_imp (RZ.pi_zipA hg hm ha.pa hs hpl) fun σ H R ⟨τ, M, Ed, Kd, sl, lm, q, dx, kk⟩ => ⟨τ, M, Ed, _, sl, lm, q, fun vs H1 ds M1 f1 l1 r1 q1 => by
    rcases ds with _ | ⟨x, _ | ⟨y, _ | ⟨z, r⟩⟩⟩
    · exact q1.elim
    · exact q1.elim
    · have lists : (seqL x M1 fun xs k1 => seqL y M1 fun ys k2 => Kd (zipD xs ys) (fun M => k1 M ∧ k2 M) M1) →
          ∃ a b xs ys, vs = [.ref a, .ref b] ∧ ((SqL X.K H1 a xs ∧ SqL X.K H1 b ys ∧ R (Itz X.K a b) H1) ∨ (SqT X.K H1 a xs ∧ SqT X.K H1 b ys ∧ R (RZ.ItzT X.K a b) H1)) := by
        intro q2
        simp only [Reps] at r1
        obtain ⟨u, r, rfl, ru, v, r', rfl, rv, rfl⟩ := r1
        obtain ⟨a, xs, k1, rfl, q2, ⟨us, hus⟩, ka⟩ := seqL_read l1 ru q2
        obtain ⟨b, ys, k2, rfl, q2, ⟨ws, hws⟩, kb⟩ := seqL_read l1 rv q2
        refine ⟨a, b, us, ws, rfl, .inl ⟨hus, hws, kk _ _ _ _ M1 f1 l1 (fun i M2 H2 f l kp => ?_) q2⟩⟩
        obtain ⟨us2, s1, p1⟩ := ka M2 H2 f l kp.1
        obtain ⟨ws2, s2, p2⟩ := kb M2 H2 f l kp.2
        refine ⟨fun d hd => ?_, fun hn => ⟨us2, ws2, s1, s2, ?_⟩⟩
        · obtain ⟨x, y, hx, hy, rfl⟩ := zipD_get hd
          obtain ⟨v1, e1, rx⟩ := Reps.get p1 hx
          obtain ⟨v2, e2, ry⟩ := Reps.get p2 hy
          refine ⟨⟨us2, ws2, v1, v2, s1, s2, e1, e2⟩, fun z H3 ⟨T, x', y', hz, hT, hH, g1, g2⟩ => ?_⟩
          have h1 := g1 us2 s1
          have h2 := g2 ws2 s2
          rw [e1] at h1; cases h1
          rw [e2] at h2; cases h2
          subst hz; subst hH
          exact new_pair l hT rx ry
        · rw [p1.length, p2.length]
          exact zipD_none hn
      cases x with
      | tup xs =>
        cases y with
        | tup ys =>
          simp only [Reps, Rep] at r1
          obtain ⟨u, r, rfl, ⟨a, us, rfl, s1, p1⟩, v, r', rfl, ⟨b, ws, rfl, s2, p2⟩, rfl⟩ := r1
          refine ⟨a, b, us, ws, rfl, .inr ⟨s1, s2, kk _ _ _ _ M1 f1 l1 (fun i M2 H2 f l _ => ?_) q1⟩⟩
          have i2 := f.imm l1
          refine ⟨fun d hd => ?_, fun hn => ⟨us, ws, i2.sqT s1, i2.sqT s2, ?_⟩⟩
          · obtain ⟨x, y, hx, hy, rfl⟩ := zipD_get hd
            obtain ⟨v1, e1, rx⟩ := Reps.get (i2.reps _ _ p1) hx
            obtain ⟨v2, e2, ry⟩ := Reps.get (i2.reps _ _ p2) hy
            refine ⟨⟨us, ws, v1, v2, i2.sqT s1, i2.sqT s2, e1, e2⟩, fun z H3 ⟨T, x', y', hz, hT, hH, g1, g2⟩ => ?_⟩
            have h1 := g1 us (i2.sqT s1)
            have h2 := g2 ws (i2.sqT s2)
            rw [e1] at h1; cases h1
            rw [e2] at h2; cases h2
            subst hz; subst hH
            exact new_pair l hT rx ry
          · rw [p1.length, p2.length]
            exact zipD_none hn
        | _ => exact q1.elim
      | _ => exact lists q1
    · exact q1.elim, dx⟩⟩
end

/-! ### a comprehension -/
def wipeD (τ : DSt) : List Nat → DSt
  | [] => τ
  | i :: r => (wipeD τ r).set i none
theorem Slots.wipe {K : PySem.W.Frag} {H : Hp} {σ : L2.St} {τ : DSt} (s : Slots K H σ τ) : ∀ {vs : List Nat}, Slots K H (L2.wipe σ vs) (wipeD τ vs)
  | [] => s
  | _ :: vs => (Slots.wipe s (vs := vs)).unset
theorem Off.wipe {vs us : List Nat} {σ σ' : L2.St} (o : Off us (L2.wipe σ vs) σ') (h : ∀ i, i ∈ us → i ∈ vs) : L2.wipe σ' vs = L2.wipe σ vs := by
  have key : ∀ (vs : List Nat) (a : L2.St) (i : Nat), (L2.wipe a vs)[i]? = if i ∈ vs then (if i < a.length then some none else none) else a[i]? := by
    intro vs
    induction vs with
    | nil => intro a i; simp [L2.wipe]
    | cons v r ih =>
      intro a i
      show ((L2.wipe a r).set v none)[i]? = _
      by_cases h2 : v = i
      · subst h2
        rw [List.getElem?_set, if_pos rfl, wipe_length]
        simp
      · have : i ≠ v := fun z => h2 z.symm
        rw [List.getElem?_set_ne h2, ih]
        simp [this]
  have hl : σ'.length = σ.length := by rw [o.1, wipe_length]
  refine List.ext_getElem? fun i => ?_
  rw [key, key, hl]
  by_cases h1 : i ∈ vs
  · rw [if_pos h1, if_pos h1]
  · rw [if_neg h1, if_neg h1, o.2 i fun z => h1 (h i z), key, if_neg h1]
abbrev EF : DXW := fun _ _ _ => False
abbrev WF : WX := fun _ _ _ _ => False
structure DTs (X : Cx) (W : WX) (ifs : List Expr) (t : DTT) : Prop where
  pts : PTs X ifs (liftT X.prog X.w X.K W t)
def dYes : DTT := fun _ M _ Q => Q true M
def dComp1 (g : DTG) (tt : DTT) (te : DTE) (keep : MH → Prop) (τ : DSt) (Q : List D → MH → Prop) : List D → List D → MH → Prop
  | [], acc => fun M => keep M ∧ Q acc M
  | d :: ds, acc => fun M => keep M ∧ g d τ M EF fun τ2 M2 => tt τ2 M2 EF fun b M3 =>
    if b = true then te τ2 M3 EF fun y M4 => acc.length < sizeLine ∧ ∃ M5, MLe M5 M4 ∧ dComp1 g tt te keep τ Q ds (acc ++ [y]) M5
    else ∃ M5, MLe M5 M3 ∧ dComp1 g tt te keep τ Q ds acc M5
def dLc (wi : DTI) (vs : List Nat) (g : DTG) (tt : DTT) (te : DTE) : DTE := fun τ M E Q => wi τ M E fun ds keep M1 =>
  dComp1 g tt te keep (wipeD τ vs) (fun acc M2 => ∀ p, M2 p = none → Q (.ref p) (mup M2 p (.lst acc))) ds [] M1
section
variable {X : Cx} {W : WX} {pos : Pos}
theorem dts_nil : DTs X W [] dYes := ⟨⟨fun pins s σ H Q I ⟨τ, M, Ed, Qd, sl, lm, q, dv, dx⟩ => pts_nil.run pins s σ H Q I (dv true H M (Fr.refl _ _) lm q)⟩⟩
theorem dts_one {c : Expr} {t : DTT} (h : DT X W c t) : DTs X W [c] t := ⟨pts_one h.pt⟩
/-- the heap below with the list that is made -/
theorem LinkM.with {P : Program} {w : World} {K : PySem.W.Frag} {H : Hp} {M : MH} {p : Addr} {ds : List D} {vs : List V} (l : LinkM P w K H M) (hH : H p = some (.lst vs)) (r : Reps K H ds vs) : LinkM P w K H (mup M p (.lst ds)) := fun b o e => by
  by_cases hb : b = p
  · subst hb; rw [mup_same] at e; cases e; exact ⟨vs, hH, r⟩
  · rw [mup_ne hb] at e; exact l b o e
theorem lift_lc {P : Program} {w : World} {K : PySem.W.Frag} {wi : DTI} {vs us : List Nat} {g : DTG} {tt : DTT} {te : DTE} {σ : L2.St} {H : Hp} {Q : VK} (hu : ∀ i, i ∈ us → i ∈ vs) (h : liftE P w K W (dLc wi vs g tt te) σ H Q) :
    tLc (liftI P w K W wi) (liftG P w K WF us g) (liftT P w K WF tt) (liftE P w K WF te) vs σ H Q := by
  obtain ⟨τ, M, Ed, Qd, sl, lm, q, dv, dx⟩ := h
  refine ⟨τ, M, Ed, _, sl, lm, q, dx, fun J H1 items keep M1 f1 l1 ok q1 D hD => ?_⟩
  have sl1 := ((f1.imm lm).slots sl).wipe (vs := vs)
  obtain ⟨l1', f1'⟩ := l1.new (u := .lst []) (o := .lst []) hD ⟨[], upd_same, rfl⟩
  refine ⟨fun i m H' => ∃ M' acc vs', H' D = some (.lst vs') ∧ Reps K H' acc vs' ∧ M' D = none ∧ LinkM P w K H' M' ∧ Fr M1 H1 M' H' ∧ i + m = items.length ∧
      dComp1 g tt te keep (wipeD τ vs) (fun acc M2 => ∀ p, M2 p = none → Qd (.ref p) (mup M2 p (.lst acc))) (items.drop i) acc M',
    ⟨items.length, M1, [], [], upd_same, rfl, l1.fresh hD, (l1.add (u := .lst []) hD).1, (l1.add (u := .lst []) hD).2, Nat.zero_add _, q1⟩, fun i m H2 ⟨M2, acc, vs2, hD2, ra, nD, l2, f2, hm, q2⟩ => ?_⟩
  cases e : items.drop i with
  | nil =>
    rw [e] at q2
    obtain ⟨kp, q2⟩ := q2
    refine .inl ⟨(ok i M2 H2 f2 l2 kp).2 (List.getElem?_eq_none (List.drop_eq_nil_iff.mp e)), ?_⟩
    refine dv _ H2 (.ref D) _ (f1.trans ?_) (l2.with hD2 ra) rfl (q2 D nD)
    exact ⟨f2.keep, fun b o e n => by
      rw [mup_ne (ne_of_none e hD)]; exact f2.out b o e n⟩
  | cons d r =>
    rw [e] at q2
    obtain ⟨kp, q2⟩ := q2
    have hd : items[i]? = some d := by
      have := congrArg List.head? e
      rwa [List.head?_drop, List.head?_cons] at this
    have hr : items.drop (i + 1) = r := by
      have := congrArg List.tail e
      rwa [List.tail_drop, List.tail_cons] at this
    have hlt : i < items.length := (List.getElem?_eq_some_iff.mp hd).1
    obtain ⟨go, yl⟩ := (ok i M2 H2 f2 l2 kp).1 d hd
    refine .inr ⟨go, fun H' => ∃ M' acc vs', H' D = some (.lst vs') ∧ Reps K H' acc vs' ∧ M' D = none ∧ LinkM P w K H' M' ∧ Fr M1 H1 M' H' ∧
      dComp1 g tt te keep (wipeD τ vs) (fun acc M2 => ∀ p, M2 p = none → Qd (.ref p) (mup M2 p (.lst acc))) (items.drop (i + 1)) acc M', fun H' ⟨M', a, b, h1, h2, h3, h4, h5, h6⟩ => ⟨m - 1, by omega, M', a, b, h1, h2, h3, h4, h5, by omega, h6⟩, fun x H3 y => ?_⟩
    obtain ⟨rx, f3, l3⟩ := yl x H3 y
    have f13 := f2.trans f3
    have i3 := f13.imm l1
    refine ⟨d, wipeD τ vs, M2, EF, _, i3.slots sl1, l3, rx, q2, fun σ4 H4 τ4 M4 o4 f4 s4 l4 q4 => ?_, fun _ _ _ _ _ _ _ _ _ z => z.elim⟩
    refine ⟨o4.wipe hu, τ4, M4, EF, _, s4, l4, q4, fun b H5 M5 f5 l5 q5 => ?_, fun _ _ _ _ _ _ _ _ _ z => z.elim⟩
    have f25 := f3.trans (f4.trans f5)
    have f15 := f2.trans f25
    cases b with
    | true =>
      rw [if_pos rfl] at q5
      refine iteT ?_
      refine ⟨τ4, M5, EF, _, (f5.imm l4).slots s4, l5, q5, fun v H6 d6 M6 f6 l6 r6 ⟨hz, M7, mle, q6⟩ => ?_, fun _ _ _ _ _ _ _ _ _ z => z.elim⟩
      have f26 := f25.trans f6
      have f16 := f2.trans f26
      have hD6 : H6 D = some (.lst vs2) := f26.keep D _ hD2 nD
      have nD6 : M6 D = none := f26.out D _ hD2 nD
      have ra6 := (f26.imm l2).reps _ _ ra
      refine ⟨vs2, hD6, by rw [ra.length]; exact hz, M7, acc ++ [d6], vs2 ++ [v], upd_same, ?_, ?_, ?_, ?_, by rw [hr]; exact q6⟩
      · have im : Imm H6 (L2.upd H6 D (.lst (vs2 ++ [v]))) := Imm.upd (fun _ z => by rw [hD6] at z; cases z) (fun _ _ z => by rw [hD6] at z; cases z) (fun _ _ z => by rw [hD6] at z; cases z)
        exact im.reps _ _ (ra6.append (.one r6))
      · cases e7 : M7 D with
        | none => rfl
        | some o => rw [mle D o e7] at nD6; cases nD6
      · have lw := (l6.with hD6 ra6).put (u := .lst (vs2 ++ [v])) (o := .lst (acc ++ [d6])) mup_same ⟨vs2 ++ [v], upd_same, by
          have im : Imm H6 (L2.upd H6 D (.lst (vs2 ++ [v]))) := Imm.upd (fun _ z => by rw [hD6] at z; cases z) (fun _ _ z => by rw [hD6] at z; cases z) (fun _ _ z => by rw [hD6] at z; cases z)
          exact im.reps _ _ (ra6.append (.one r6))⟩
        refine lw.1.less fun b o e => ?_
        have nb : b ≠ D := fun z => by subst z; rw [mle b o e] at nD6; cases nD6
        rw [mup_ne nb, mup_ne nb]; exact mle b o e
      · exact ⟨fun b o e n => by rw [upd_ne (ne_of_none e hD)]; exact f16.keep b o e n, fun b o e n => by
          have := f16.out b o e n
          cases e7 : M7 b with
          | none => rfl
          | some u => rw [mle b u e7] at this; cases this⟩
    | false =>
      rw [if_neg Bool.false_ne_true] at q5
      refine iteF ?_
      obtain ⟨M7, mle, q5⟩ := q5
      have nD5 : M5 D = none := f25.out D _ hD2 nD
      refine ⟨M7, acc, vs2, f25.keep D _ hD2 nD, (f25.imm l2).reps _ _ ra, ?_, l5.less mle, f15.less mle, by rw [hr]; exact q5⟩
      cases e7 : M7 D with
      | none => rfl
      | some o => rw [mle D o e7] at nD5; cases nD5
theorem de_lc {elt tg iter : Expr} {ifs : List Expr} {scope : Scope} (own : List (Str × Nat)) {wi : DTI} {us : List Nat} {g : DTG} {tt : DTT} {te : DTE} (hc : X.calm = true) (hN : X.N.Nodup) (hi : DI X W tg iter wi) (ok : blkC X.N X.env.scope scope own = true)
    (hg : ∀ (s : Shared) (H : Hp) (C : Addr) (cl : List (Str × Addr)) (fp : List Addr), DG (X.blk s H scope (compEnvC scope cl C X.env) fp) WF tg us g) (ht : ∀ (s : Shared) (H : Hp) (C : Addr) (cl : List (Str × Addr)) (fp : List Addr), DTs (X.blk s H scope (compEnvC scope cl C X.env) fp) WF ifs tt)
    (he : ∀ (s : Shared) (H : Hp) (C : Addr) (cl : List (Str × Addr)) (fp : List Addr), DE (X.blk s H scope (compEnvC scope cl C X.env) fp) WF elt te) (hu : us.all (fun i => (own.map (·.2)).contains i) = true := by decide) (hs : ∀ x, foldedSetIterable iter X.env x = pure x := by intro _; rfl) :
    DE X W (.ListComp elt [⟨tg, iter, ifs, 0⟩] scope pos) (dLc wi (own.map (·.2)) g tt te) :=
  ⟨pe_imp (pe_lc hc hN hi.pi (blkOk_by ok) (fun s H C cl fp => (hg s H C cl fp).pg) (fun s H C cl fp => (ht s H C cl fp).pts) (fun s H C cl fp => (he s H C cl fp).pe) hs) fun σ H Q h =>
    lift_lc (fun i hi => List.contains_iff_mem.mp (List.all_eq_true.mp hu i hi)) h⟩
theorem ds_setLc (i : Nat) {y : Str} {py : Pos} {elt tg iter : Expr} {ifs : List Expr} {scope : Scope} (own : List (Str × Nat)) {spos : Pos} {wi : DTI} {us : List Nat} {g : DTG} {tt : DTT} {te : DTE} (hc : X.calm = true) (hN : X.N.Nodup)
    (hsw : swapsWith (.ListComp elt [⟨tg, iter, ifs, 0⟩] scope pos) (some (.Name y py)) spos.line X.env = pure true) (hi : DI X W tg iter wi) (ok : blkC X.N X.env.scope scope own = true)
    (hg : ∀ (s : Shared) (H : Hp) (C : Addr) (cl : List (Str × Addr)) (fp : List Addr), DG (X.blk s H scope (compEnvC scope cl C X.env) fp) WF tg us g) (ht : ∀ (s : Shared) (H : Hp) (C : Addr) (cl : List (Str × Addr)) (fp : List Addr), DTs (X.blk s H scope (compEnvC scope cl C X.env) fp) WF ifs tt)
    (he : ∀ (s : Shared) (H : Hp) (C : Addr) (cl : List (Str × Addr)) (fp : List Addr), DE (X.blk s H scope (compEnvC scope cl C X.env) fp) WF elt te) (hu : us.all (fun i => (own.map (·.2)).contains i) = true := by decide) (hy : X.N[i]? = some y := by rfl) (hyl : X.env.scope.names.lookup y = some .local := by rfl) (hs : ∀ x, foldedSetIterable iter X.env x = pure x := by intro _; rfl) :
    DS X W (.Assign [.Name y py] (.ListComp elt [⟨tg, iter, ifs, 0⟩] scope pos) spos) (dAsg (dLc wi (own.map (·.2)) g tt te) (dgName i)) :=
  ⟨ps_imp (ps_setLc hc hN hy hyl hsw hi.pi (blkOk_by ok) (fun s H C cl fp => (hg s H C cl fp).pg) (fun s H C cl fp => (ht s H C cl fp).pts) (fun s H C cl fp => (he s H C cl fp).pe) hs) fun D σ H ⟨τ, M, Dd, sl, lm, q, ds⟩ =>
    lift_lc (fun i hi => List.contains_iff_mem.mp (List.all_eq_true.mp hu i hi)) ⟨τ, M, Dd.xx, _, sl, lm, q, fun v H1 d M1 f l r q1 => ds.nx _ H1 _ M1 f (((f.imm lm).slots sl).set r) l q1, ds.xx⟩⟩
end
end DL
namespace DL
open PySem PySem.Spec PyProof.Rows L2
/-! ### data that is compared -/
mutual
/-- no truths, no objects; this deep at most -/
def okD : Nat → D → Bool
  | _, .non => true
  | _, .int _ => true
  | _, .str x => x.cps.all (· < 0x110000)
  | 0, .tup _ => false
  | 0, .rol _ => false
  | n + 1, .tup ds => okDs n ds
  | n + 1, .rol ds => okDs n ds
  | _, _ => false
def okDs : Nat → List D → Bool
  | _, [] => true
  | n, d :: ds => okD n d && okDs n ds
end
mutual
def pyT : D → PyData
  | .non => .none
  | .bl b => .bool b
  | .int i => .int i
  | .str x => .str x
  | .tup ds => .tuple (pyTs ds)
  | .rol ds => .list (pyTs ds)
  | _ => .none
def pyTs : List D → List PyData
  | [] => []
  | d :: ds => pyT d :: pyTs ds
end
theorem pyTs_eq : ∀ ds : List D, pyTs ds = ds.map pyT
  | [] => rfl
  | d :: ds => by rw [pyTs, pyTs_eq ds]; rfl
theorem okDs_eq (n : Nat) : ∀ ds : List D, okDs n ds = ds.all (okD n)
  | [] => rfl
  | d :: ds => by rw [okDs, okDs_eq n ds]; rfl
theorem okDs_iff (n : Nat) (ds : List D) : okDs n ds = true ↔ ∀ d ∈ ds, okD n d = true := by rw [okDs_eq, List.all_eq_true]
mutual
theorem okD_lay : ∀ (d : D) (n : Nat), okD n d = true → (pyT d).canLay0 = true ∧ (pyT d).depth ≤ n
  | .non, n, _ => ⟨rfl, Nat.zero_le _⟩
  | .int _, n, _ => ⟨rfl, Nat.zero_le _⟩
  | .str x, n, h => ⟨by rw [okD] at h; exact h, Nat.zero_le _⟩
  | .bl _, n, h => by rw [okD] at h; cases h; all_goals simp
  | .ref _, n, h => by rw [okD] at h; cases h; all_goals simp
  | .ty _, n, h => by rw [okD] at h; cases h; all_goals simp
  | .tup ds, 0, h => by rw [okD] at h; cases h
  | .rol ds, 0, h => by rw [okD] at h; cases h
  | .tup ds, n + 1, h => by
    rw [okD] at h
    obtain ⟨h1, h2⟩ := okDs_lay ds n h
    exact ⟨h1, Nat.succ_le_succ h2⟩
  | .rol ds, n + 1, h => by
    rw [okD] at h
    obtain ⟨h1, h2⟩ := okDs_lay ds n h
    exact ⟨h1, Nat.succ_le_succ h2⟩
theorem okDs_lay : ∀ (ds : List D) (n : Nat), okDs n ds = true → PyData.canLayAll0 (pyTs ds) = true ∧ PyData.depthAll (pyTs ds) ≤ n
  | [], n, _ => ⟨rfl, Nat.zero_le _⟩
  | d :: ds, n, h => by
    rw [okDs, Bool.and_eq_true] at h
    obtain ⟨h1, h2⟩ := okD_lay d n h.1
    obtain ⟨h3, h4⟩ := okDs_lay ds n h.2
    refine ⟨by rw [pyTs, PyData.canLayAll0, h1, h3]; rfl, ?_⟩
    rw [pyTs, PyData.depthAll]
    omega
end
theorem okD_shaped {n : Nat} {d : D} (h : okD n d = true) (hn : n ≤ 64) : SeqAt.shaped (pyT d) = true := by
  obtain ⟨h1, h2⟩ := okD_lay d n h
  unfold SeqAt.shaped
  rw [h1, decide_eq_true (Nat.le_trans h2 hn)]
  rfl
mutual
theorem eqv_okD : ∀ (a b : D) (n m : Nat), okD n a = true → okD m b = true → PyData.eqv (pyT a) (pyT b) = decide (a = b) := fun a b n m ha hb => by
  cases a with
  | non => cases b <;> first | (rw [okD] at hb; cases hb; done) | (simp [pyT, PyData.eqv]; done) | (cases m <;> simp [okD] at hb)
  | int i => cases b <;> first | (simp [pyT, PyData.eqv]; done) | (simp [okD] at hb; done) | (simp [pyT, PyData.eqv, Bool.beq_eq_decide_eq])
  | str i => cases b <;> first | (simp [pyT, PyData.eqv]; done) | (simp [okD] at hb; done) | (simp [pyT, PyData.eqv, Bool.beq_eq_decide_eq])
  | tup xs =>
    cases n with
    | zero => rw [okD] at ha; cases ha
    | succ n =>
      cases b with
      | tup ys =>
        cases m with
        | zero => rw [okD] at hb; cases hb
        | succ m =>
          rw [okD] at ha hb
          rw [pyT, pyT, PyData.eqv, eqv_okDs xs ys n m ha hb]
          simp
      | _ => first | (simp [pyT, PyData.eqv]; done) | (simp [okD] at hb)
  | rol xs =>
    cases n with
    | zero => rw [okD] at ha; cases ha
    | succ n =>
      cases b with
      | rol ys =>
        cases m with
        | zero => rw [okD] at hb; cases hb
        | succ m =>
          rw [okD] at ha hb
          rw [pyT, pyT, PyData.eqv, eqv_okDs xs ys n m ha hb]
          simp
      | _ => first | (simp [pyT, PyData.eqv]; done) | (simp [okD] at hb)
  | _ => simp [okD] at ha
theorem eqv_okDs : ∀ (a b : List D) (n m : Nat), okDs n a = true → okDs m b = true → PyData.eqvAll (pyTs a) (pyTs b) = decide (a = b)
  | [], [], _, _, _, _ => by simp [pyTs, PyData.eqvAll]
  | [], _ :: _, _, _, _, _ => by simp [pyTs, PyData.eqvAll]
  | _ :: _, [], _, _, _, _ => by simp [pyTs, PyData.eqvAll]
  | a :: as, b :: bs, n, m, ha, hb => by
    rw [okDs, Bool.and_eq_true] at ha hb
    rw [pyTs, pyTs, PyData.eqvAll, eqv_okD a b n m ha.1 hb.1, eqv_okDs as bs n m ha.2 hb.2, Bool.eq_iff_iff]
    simp
end
mutual
theorem rep_dp {K : PySem.W.Frag} {H : Hp} : ∀ (d : D) (v : V) (n : Nat), okD n d = true → Rep K H d v → Dp K H v (pyT d)
  | .non, _, _, _, r => by rw [Rep] at r; subst r; exact .non
  | .int i, _, _, _, r => by rw [Rep] at r; subst r; exact .int i
  | .str x, _, _, _, r => by rw [Rep] at r; subst r; exact .str x
  | .bl _, _, n, h, _ => by simp [okD] at h
  | .ref _, _, n, h, _ => by simp [okD] at h
  | .ty _, _, n, h, _ => by simp [okD] at h
  | .tup ds, _, 0, h, _ => by simp [okD] at h
  | .rol ds, _, 0, h, _ => by simp [okD] at h
  | .tup ds, _, n + 1, h, r => by
    rw [okD] at h
    rw [Rep] at r
    obtain ⟨a, vs, e, s, rs⟩ := r
    subst e
    exact .tup s (reps_dp ds vs n h rs)
  | .rol ds, _, n + 1, h, r => by
    rw [okD] at h
    rw [Rep] at r
    obtain ⟨a, vs, e, s, rs⟩ := r
    subst e
    exact .lst s.sq (reps_dp ds vs n h rs)
theorem reps_dp {K : PySem.W.Frag} {H : Hp} : ∀ (ds : List D) (vs : List V) (n : Nat), okDs n ds = true → Reps K H ds vs → DpAll K H vs (pyTs ds)
  | [], _, _, _, r => by rw [Reps] at r; subst r; exact .nil
  | d :: ds, _, n, h, r => by
    rw [okDs, Bool.and_eq_true] at h
    rw [Reps] at r
    obtain ⟨v, rr, e, r1, r2⟩ := r
    subst e
    exact .cons (rep_dp d v n h.1 r1) (reps_dp ds rr n h.2 r2)
end
/-- a list told is its items -/
def valM (M : MH) : D → D
  | .ref a => match M a with
    | some (.lst ds) => .rol ds
    | _ => .ref a
  | x => x
theorem valM_dp {P : Program} {w : World} {K : PySem.W.Frag} {H : Hp} {M : MH} {x : D} {v : V} {n : Nat} (lm : LinkM P w K H M) (h : okD n (valM M x) = true) (r : Rep K H x v) : Dp K H v (pyT (valM M x)) := by
  cases x with
  | ref a =>
    cases e : M a with
    | none => simp [valM, e, okD] at h
    | some o =>
      cases o with
      | lst ds =>
        rw [Rep] at r
        subst r
        obtain ⟨vs, hv, rs⟩ := lm a _ e
        have e2 : valM M (.ref a) = .rol ds := by simp [valM, e]
        rw [e2] at h ⊢
        cases n with
        | zero => simp [okD] at h
        | succ n =>
          rw [okD] at h
          exact .lst (.inl (.inl hv)) (reps_dp ds vs n h rs)
      | _ => simp [valM, e, okD] at h
  | _ => exact rep_dp _ _ n h r
theorem OpR.imp {X : Cx} {f : Value → Value → Sem Value} {r r' : R2} (h : OpR X f r) (i : ∀ x y H Q, r' x y H Q → r x y H Q) : OpR X f r' := fun pins s σ H x y v u Q I r1 r2 q => h pins s σ H x y v u Q I r1 r2 (i x y H Q q)

/-! ### operators -/
section
variable {X : Cx}
def addR : DR2 := fun x y M Q => match x with
  | .int i => match y with
    | .int j => Q (.int (i + j)) M
    | _ => False
  | .str a => match y with
    | .str b => a.length + b.length ≤ sizeLine ∧ Q (.str (a ++ b)) M
    | _ => False
  | .tup a => match y with
    | .tup b => a.length + b.length ≤ sizeLine ∧ Q (.tup (a ++ b)) M
    | _ => False
  | .ref a => match y with
    | .ref b => match M a with
      | some (.lst xs) => match M b with
        | some (.lst ys) => xs.length + ys.length ≤ sizeLine ∧ ∀ p, M p = none → Q (.ref p) (mup M p (.lst (xs ++ ys)))
        | _ => False
      | _ => False
    | _ => False
  | _ => False
theorem do_add : DOp X (binaryOp .Add) addR := OpR.imp (((op_add.or op_add_str).or op_catA).or op_cat) fun x y H Q ⟨dx, dy, M, Qd, lm, r1, r2, q, dv⟩ => by
  cases dx with
  | int i =>
    cases dy with
    | int j => exact .inl (.inl (.inl ⟨i, j, r1, r2, dv _ H (.int (i + j)) M (Fr.refl _ _) lm rfl q⟩))
    | _ => exact q.elim
  | str i =>
    cases dy with
    | str j => exact .inl (.inl (.inr ⟨i, j, r1, r2, q.1, dv _ H (.str (i ++ j)) M (Fr.refl _ _) lm rfl q.2⟩))
    | _ => exact q.elim
  | tup i =>
    cases dy with
    | tup j =>
      rw [Rep] at r1 r2
      obtain ⟨a, vs, rfl, s1, p1⟩ := r1
      obtain ⟨b, us, rfl, s2, p2⟩ := r2
      have q2 : i.length + j.length ≤ sizeLine ∧ Qd (.tup (i ++ j)) M := q
      refine .inl (.inr ⟨a, b, vs, us, rfl, rfl, s1, s2, by rw [p1.length, p2.length]; exact q2.1, fun e => ?_, fun _ e => ?_, fun _ _ p hp => new_tup lm dv (p1.append p2) q2.2 hp⟩)
      · have e2 : i = [] := by cases i with
          | nil => rfl
          | cons _ _ => have := p1.length; rw [e] at this; cases this
        subst e2
        exact dv _ H (.tup j) M (Fr.refl _ _) lm ⟨b, us, rfl, s2, p2⟩ q2.2
      · have e2 : j = [] := by cases j with
          | nil => rfl
          | cons _ _ => have := p2.length; rw [e] at this; cases this
        subst e2
        exact dv _ H (.tup i) M (Fr.refl _ _) lm ⟨a, vs, rfl, s1, p1⟩ (by simpa using q2.2)
    | _ => exact q.elim
  | ref a =>
    cases dy with
    | ref b =>
      simp only [addR] at q
      split at q
      · rename_i xs hx
        split at q
        · rename_i ys hy
          rw [Rep] at r1 r2
          obtain ⟨vs, h1, p1⟩ := lm a _ hx
          obtain ⟨us, h2, p2⟩ := lm b _ hy
          exact .inr ⟨a, b, vs, us, r1, r2, h1, h2, by rw [p1.length, p2.length]; exact q.1, fun p hp => new_lst lm dv (p1.append p2) q.2 hp⟩
        · exact q.elim
      · exact q.elim
    | _ => exact q.elim
  | _ => exact q.elim
def intR (C : Int → Int → Prop) (g : Int → Int → Int) : DR2 := fun x y M Q => match x with
  | .int i => match y with
    | .int j => C i j ∧ Q (.int (g i j)) M
    | _ => False
  | _ => False
theorem do_int {f : Value → Value → Sem Value} {C : Int → Int → Prop} {g : Int → Int → Int} (h : OpR X f (rI C fun i j => .int (g i j))) : DOp X f (intR C g) := OpR.imp h fun x y H Q ⟨dx, dy, M, Qd, lm, r1, r2, q, dv⟩ => by
  cases dx with
  | int i =>
    cases dy with
    | int j =>
      have q2 : C i j ∧ Qd (.int (g i j)) M := q
      exact ⟨i, j, r1, r2, q2.1, dv _ H (.int (g i j)) M (Fr.refl _ _) lm rfl q2.2⟩
    | _ => exact q.elim
  | _ => exact q.elim
theorem opI_true {f : Value → Value → Sem Value} {g : Int → Int → Int} (h : OpR X f (rI0 fun i j => .int (g i j))) : OpR X f (rI (fun _ _ => True) fun i j => .int (g i j)) := OpR.imp h fun x y H Q ⟨i, j, a, b, _, q⟩ => ⟨i, j, a, b, q⟩
def subR : DR2 := intR (fun _ _ => True) fun i j => i - j
theorem do_sub : DOp X (binaryOp .Sub) subR := do_int (opI_true op_sub)
def mulOk (i j : Int) : Prop := CMul i j ∨ CMulW i j
def mulR : DR2 := fun x y M Q => match x with
  | .int i => match y with
    | .int j => mulOk i j ∧ Q (.int (i * j)) M
    | _ => False
  | .ref a => match y with
    | .int k => match M a with
      | some (.lst xs) => -(2 ^ 63) ≤ k ∧ k < 2 ^ 63 ∧ xs.length * k.toNat ≤ sizeLine ∧ ∀ p, M p = none → Q (.ref p) (mup M p (.lst (List.replicate k.toNat xs).flatten))
      | _ => False
    | _ => False
  | .str z => match y with
    | .int k => -(2 ^ 60) ≤ k ∧ k ≤ 100000 ∧ z.length ≤ 100 ∧ Q (.str ⟨(List.replicate k.toNat z.cps.toList).flatten.toArray⟩) M
    | _ => False
  | _ => False
theorem Reps.rep {K : PySem.W.Frag} {H : Hp} {ds : List D} {vs : List V} (r : Reps K H ds vs) : ∀ n, Reps K H (List.replicate n ds).flatten (List.replicate n vs).flatten
  | 0 => rfl
  | n + 1 => by
    rw [List.replicate_succ, List.flatten_cons, List.replicate_succ, List.flatten_cons]
    exact r.append (Reps.rep r n)
theorem foldl_app (x : Array Nat) : ∀ (n : Nat) (acc : Array Nat), (List.replicate n x).foldl (· ++ ·) acc = acc ++ (List.replicate n x.toList).flatten.toArray
  | 0, acc => by simp
  | n + 1, acc => by
    rw [List.replicate_succ, List.foldl_cons, foldl_app x n, List.replicate_succ, List.flatten_cons, Array.append_assoc]
    congr 1
    apply Array.toList_inj.mp
    simp
theorem op_mul_str : OpR X (binaryOp .Mult) (fun x y H Q => ∃ z k, x = .str z ∧ y = .int k ∧ -(2 ^ 60) ≤ k ∧ k ≤ 100000 ∧ z.length ≤ 100 ∧ Q (.str ⟨(List.replicate k.toNat z.cps.toList).flatten.toArray⟩) H) := by
  intro pins s σ H x y v u Q I rx ry h
  obtain ⟨z, k, rfl, rfl, h1, h2, h3, q⟩ := h
  obtain ⟨t, rfl⟩ := rx
  obtain ⟨t', rfl⟩ := ry
  have hlen : z.length = z.cps.size := rfl
  have hline : sizeLine = 16777216 := sizeLine_eq
  have hmul : z.length * k.toNat ≤ 100 * 100000 := Nat.mul_le_mul h3 (by omega)
  refine P.mul_str ?_ (fun hk hne => ?_) (fun hk hne => ?_) ?_
  · rw [decide_eq_false (show ¬ k < -(2 ^ 63 : Int) by omega), decide_eq_false (show ¬ k ≥ 2 ^ 63 by omega)]; rfl
  · have hk1 : (1 : Int) ≤ k := by omega
    have : (100 : Int) ≤ (2 ^ 63 - 1) / k := by
      rw [Int.le_ediv_iff_mul_le (by omega)]
      omega
    omega
  · unfold Builtin.Str.tooLong
    exact decide_eq_false (by omega)
  · by_cases hk : k < 1
    · rw [if_pos hk]
      have e : k.toNat = 0 := by omega
      refine ⟨by decide, ⟨.str _, H, I.tok _, ⟨_, rfl⟩, ?_⟩⟩
      rw [e] at q
      exact q
    · rw [if_neg hk]
      by_cases hb : (k == 1 || z.length == 0) = true
      · rw [if_pos hb]
        refine ⟨.str _, H, I, ⟨t, rfl⟩, ?_⟩
        have e : (⟨(List.replicate k.toNat z.cps.toList).flatten.toArray⟩ : Str) = z := by
          have ee : (List.replicate k.toNat z.cps.toList).flatten = z.cps.toList := by
            rw [Bool.or_eq_true] at hb
            rcases hb with hb | hb
            · have : k = 1 := by simpa using hb
              subst this
              simp
            · have h0 : z.cps.size = 0 := by simpa [hlen] using hb
              have h0' : z.cps.toList = [] := by
                apply List.eq_nil_of_length_eq_zero
                simpa using h0
              rw [h0']
              simp
          rw [ee]
        rw [e] at q
        exact q
      · rw [if_neg hb]
        have e := foldl_app z.cps k.toNat #[]
        rw [Array.empty_append] at e
        rw [e]
        refine ⟨?_, ⟨.str _, H, I.tok _, ⟨_, rfl⟩, q⟩⟩
        have : (⟨(List.replicate k.toNat z.cps.toList).flatten.toArray⟩ : Str).length = k.toNat * z.length := by
          show (List.replicate k.toNat z.cps.toList).flatten.toArray.size = _
          simp [hlen]
        rw [this, Nat.mul_comm]
        omega
theorem do_mul : DOp X (binaryOp .Mult) mulR := OpR.imp (((op_mul.or op_mulW).or op_rep).or op_mul_str) fun x y H Q ⟨dx, dy, M, Qd, lm, r1, r2, q, dv⟩ => by
  cases dx with
  | int i =>
    cases dy with
    | int j =>
      have q2 : mulOk i j ∧ Qd (.int (i * j)) M := q
      have e := dv _ H (.int (i * j)) M (Fr.refl _ _) lm rfl q2.2
      rcases q2.1 with h | h
      · exact .inl (.inl (.inl ⟨i, j, r1, r2, h, e⟩))
      · exact .inl (.inl (.inr ⟨i, j, r1, r2, h, e⟩))
    | _ => exact q.elim
  | ref a =>
    cases dy with
    | int k =>
      simp only [mulR] at q
      split at q
      · rename_i xs hx
        obtain ⟨vs, h1, p1⟩ := lm a _ hx
        obtain ⟨q1, q2, q3, q4⟩ := q
        exact .inl (.inr ⟨a, k, vs, r1, r2, h1, q1, q2, by rw [p1.length]; exact q3, fun p hp => new_lst lm dv (p1.rep _) q4 hp⟩)
      · exact q.elim
    | _ => exact q.elim
  | str z =>
    cases dy with
    | int k =>
      have q2 : -(2 ^ 60) ≤ k ∧ k ≤ 100000 ∧ z.length ≤ 100 ∧ Qd (.str ⟨(List.replicate k.toNat z.cps.toList).flatten.toArray⟩) M := q
      obtain ⟨q1, q2, q3, q4⟩ := q2
      exact .inr ⟨z, k, r1, r2, q1, q2, q3, dv _ H (.str _) M (Fr.refl _ _) lm rfl q4⟩
    | _ => exact q.elim
  | _ => exact q.elim
def divR : DR2 := intR (fun _ j => 0 < j ∧ j < 2 ^ 64) fun i j => i / j
theorem do_fdiv : DOp X (binaryOp .FloorDiv) divR := do_int (OpR.imp op_fdivW fun x y H Q ⟨i, j, a, b, ⟨c1, c2⟩, q⟩ => ⟨i, j, a, b, wide_div (b := 64) c1 (by omega) (by decide) (by decide), q⟩)
def modR : DR2 := intR (fun _ j => 0 < j) fun i j => i % j
theorem do_mod : DOp X (binaryOp .Mod) modR := do_int op_mod
def powR : DR2 := intR (fun i j => 0 ≤ j ∧ j ≤ 1000000 ∧ i.natAbs < 2 ^ 64) fun i j => i ^ j.toNat
theorem do_pow : DOp X (binaryOp .Pow) powR := do_int op_pow
def shlR : DR2 := intR (fun i j => 0 ≤ j ∧ j ≤ 1000000 ∧ i.natAbs < 2 ^ 64) fun i j => i * 2 ^ j.toNat
theorem do_shl : DOp X (binaryOp .LShift) shlR := do_int op_shl
def shrR : DR2 := intR (fun _ j => 0 ≤ j) fun i j => i / 2 ^ j.toNat
theorem do_shr : DOp X (binaryOp .RShift) shrR := do_int op_shr
def bandR : DR2 := intR (fun _ _ => True) fun i j => Builtin.bitAnd i j
theorem do_band : DOp X (binaryOp .BitAnd) bandR := do_int (opI_true op_and)
def iaddR : DR2 := intR (fun _ _ => True) fun i j => i + j
theorem do_iadd : DOp X (inplaceOp .Add) iaddR := do_int (opI_true iop_add)
theorem do_isub : DOp X (inplaceOp .Sub) subR := do_int (opI_true iop_sub)
end
end DL
namespace DL
open PySem PySem.Spec PyProof.Rows L2
/-! ### comparisons -/
section
variable {X : Cx}
def boolR (k : Bool) : DR2 := fun x y M Q => match x with
  | .bl a => match y with
    | .bl b => Q (.bl (k ^^ !decide (a = b))) M
    | _ => False
  | _ => False
/-- == (k = true), != (k = false) -/
def eqR (k : Bool) : DR2 := fun x y M Q => match x with
  | .bl a => match y with
    | .bl b => Q (.bl (if k = true then decide (a = b) else !decide (a = b))) M
    | _ => False
  | _ => (okD 60 (valM M x) = true ∧ okD 60 (valM M y) = true) ∧ Q (.bl (if k = true then decide (valM M x = valM M y) else !decide (valM M x = valM M y))) M
theorem do_eq (hu : X.A.units + 64 < cLine) : DOp X (compareOp .Eq) (eqR true) := OpR.imp (op_eq.or (op_eqD hu)) fun x y H Q ⟨dx, dy, M, Qd, lm, r1, r2, q, dv⟩ => by
  have gen : (okD 60 (valM M dx) = true ∧ okD 60 (valM M dy) = true) ∧ Qd (.bl (decide (valM M dx = valM M dy))) M → rEq x y H Q ∨ rEqD X.K x y H Q := fun ⟨⟨h1, h2⟩, q⟩ =>
    .inr ⟨_, _, valM_dp lm h1 r1, valM_dp lm h2 r2, okD_shaped h1 (by decide), okD_shaped h2 (by decide), dv _ H (.bl _) M (Fr.refl _ _) lm rfl (by rw [eqv_okD _ _ _ _ h1 h2]; exact q)⟩
  cases dx with
  | bl a =>
    cases dy with
    | bl b =>
      rw [Rep] at r1 r2
      subst r1 r2
      exact .inl ⟨rfl, dv _ H (.bl _) M (Fr.refl _ _) lm rfl (by
        have e : decide (V.bl a = V.bl b) = decide (a = b) := by rw [Bool.eq_iff_iff]; simp
        rw [e]; exact q)⟩
    | _ => exact q.elim
  | _ => exact gen q
theorem do_ne (hu : X.A.units + 64 < cLine) : DOp X (compareOp .NotEq) (eqR false) := OpR.imp (op_ne.or (op_neD hu)) fun x y H Q ⟨dx, dy, M, Qd, lm, r1, r2, q, dv⟩ => by
  have gen : (okD 60 (valM M dx) = true ∧ okD 60 (valM M dy) = true) ∧ Qd (.bl (!decide (valM M dx = valM M dy))) M → rNe x y H Q ∨ rNeD X.K x y H Q := fun ⟨⟨h1, h2⟩, q⟩ =>
    .inr ⟨_, _, valM_dp lm h1 r1, valM_dp lm h2 r2, okD_shaped h1 (by decide), okD_shaped h2 (by decide), dv _ H (.bl _) M (Fr.refl _ _) lm rfl (by rw [eqv_okD _ _ _ _ h1 h2]; exact q)⟩
  cases dx with
  | bl a =>
    cases dy with
    | bl b =>
      rw [Rep] at r1 r2
      subst r1 r2
      exact .inl ⟨rfl, dv _ H (.bl _) M (Fr.refl _ _) lm rfl (by
        have e : decide (V.bl a = V.bl b) = decide (a = b) := by rw [Bool.eq_iff_iff]; simp
        rw [e]; exact q)⟩
    | _ => exact q.elim
  | _ => exact gen q
/-- the order of data -/
def ltD (x y : D) : Bool := PySem.W.dataLt (pyT x) (pyT y)
def cmpR (g : Int → Int → Bool) (f : D → D → Bool) : DR2 := fun x y M Q => match x with
  | .int i => match y with
    | .int j => Q (.bl (g i j)) M
    | _ => False
  | .non => False
  | _ => (okD 60 x = true ∧ okD 60 y = true ∧ PySem.W.alike (pyT x) (pyT y) = true) ∧ Q (.bl (f x y)) M
theorem do_cmp {f : Value → Value → Sem Value} {g : Int → Int → Bool} {h : D → D → Bool} (h1 : OpR X f (rI0 fun i j => .bl (g i j)))
    (h2 : ∀ (s : Shared) (a b : Value) (x y : D) (as bs : List Addr) (Q : Value → Shared → Prop), Reads s.heap a (pyT x) as → Reads s.heap b (pyT y) bs → PySem.W.alike (pyT x) (pyT y) = true → pyT x ≠ .none → X.A.units + min (pyT x).depth (pyT y).depth < cLine → Q (.bool (h x y)) s → wpAny (model X.prog X.w) X.A (f a b) Q X.xe s)
    (hu : X.A.units + 64 < cLine) : DOp X f (cmpR g h) := fun pins s σ H x y v u Q I rx ry ⟨dx, dy, M, Qd, lm, r1, r2, q, dv⟩ => by
  have gen : dx ≠ .non → (okD 60 dx = true ∧ okD 60 dy = true ∧ PySem.W.alike (pyT dx) (pyT dy) = true) ∧ Qd (.bl (h dx dy)) M → wpAny (model X.prog X.w) X.A (f v u) (EP X pins σ Q) X.xe s := fun hne ⟨⟨k1, k2, k3⟩, q⟩ => by
    obtain ⟨as, e1⟩ := Dp.reads I _ x v (rep_dp dx x 60 k1 r1) rx
    obtain ⟨bs, e2⟩ := Dp.reads I _ y u (rep_dp dy y 60 k2 r2) ry
    have d1 := (okD_lay dx 60 k1).2
    refine h2 s v u dx dy as bs _ e1 e2 k3 (fun z => ?_) (by omega) ⟨.bl _, H, I, rfl, dv _ H (.bl _) M (Fr.refl _ _) lm rfl q⟩
    cases dx <;> first | exact hne rfl | (simp [pyT] at z; done) | (simp [okD] at k1)
  cases dx with
  | int i =>
    cases dy with
    | int j => exact h1 pins s σ H x y v u Q I rx ry ⟨i, j, r1, r2, dv _ H (.bl _) M (Fr.refl _ _) lm rfl q⟩
    | _ => exact q.elim
  | non => exact q.elim
  | _ => exact gen (fun z => by cases z) q
def ltR : DR2 := cmpR (fun i j => decide (i < j)) ltD
def leR : DR2 := cmpR (fun i j => decide (i ≤ j)) fun x y => !ltD y x
def gtR : DR2 := cmpR (fun i j => decide (j < i)) fun x y => ltD y x
def geR : DR2 := cmpR (fun i j => decide (j ≤ i)) fun x y => !ltD x y
theorem do_lt (hu : X.A.units + 64 < cLine) : DOp X (compareOp .Lt) ltR := do_cmp op_lt (fun _ _ _ _ _ _ _ _ a b c d e q => PySem.W.lt_data a b c d e q) hu
theorem do_le (hu : X.A.units + 64 < cLine) : DOp X (compareOp .LtE) leR := do_cmp op_le (fun _ _ _ _ _ _ _ _ a b c d e q => PySem.W.le_data a b c d e q) hu
theorem do_gt (hu : X.A.units + 64 < cLine) : DOp X (compareOp .Gt) gtR := do_cmp op_gt (fun _ _ _ _ _ _ _ _ a b c d e q => PySem.W.gt_data a b c d e q) hu
theorem do_ge (hu : X.A.units + 64 < cLine) : DOp X (compareOp .GtE) geR := do_cmp op_ge (fun _ _ _ _ _ _ _ _ a b c d e q => PySem.W.ge_data a b c d e q) hu
/-- is, is not with None or a truth on the right -/
def isR (k : Bool) : DR2 := fun x y M Q => match y with
  | .non => Q (.bl (if k = true then decide (x = .non) else !decide (x = .non))) M
  | .bl b => Q (.bl (if k = true then decide (x = .bl b) else !decide (x = .bl b))) M
  | _ => False
theorem rep_non {K : PySem.W.Frag} {H : Hp} {d : D} {v : V} (r : Rep K H d v) : decide (v = .non) = decide (d = .non) := by
  cases d <;> first
    | (rw [Rep] at r; subst r; simp; done)
    | (rw [Rep] at r; obtain ⟨a, vs, e, _⟩ := r; subst e; simp)
theorem rep_bl {K : PySem.W.Frag} {H : Hp} {d : D} {v : V} {b : Bool} (r : Rep K H d v) : decide (v = .bl b) = decide (d = .bl b) := by
  cases d <;> first
    | (rw [Rep] at r; subst r; simp; done)
    | (rw [Rep] at r; obtain ⟨a, vs, e, _⟩ := r; subst e; simp)
theorem relV_bl {v : V} {u : Value} (r : RelV v u) (b : Bool) : (u == Value.bool b) = decide (v = .bl b) := by
  cases v with
  | non => cases r; rfl
  | bl c => cases r; cases b <;> cases c <;> rfl
  | int _ => obtain ⟨t, rfl⟩ := r; rfl
  | str _ => obtain ⟨t, rfl⟩ := r; rfl
  | byt _ => obtain ⟨t, rfl⟩ := r; rfl
  | flt _ => obtain ⟨t, rfl⟩ := r; rfl
  | ref _ => cases r; rfl
  | ty _ => cases r; rfl
theorem plain_bl {v : V} {u : Value} (r : RelV v u) (b : Bool) : plainIs u (.bool b) = true := by
  cases v with
  | non => cases r; rfl
  | bl c => cases r; rfl
  | int _ => obtain ⟨t, rfl⟩ := r; rfl
  | str _ => obtain ⟨t, rfl⟩ := r; rfl
  | byt _ => obtain ⟨t, rfl⟩ := r; rfl
  | flt _ => obtain ⟨t, rfl⟩ := r; rfl
  | ref _ => cases r; rfl
  | ty _ => cases r; rfl
theorem op_isB : OpR X (compareOp .Is) (fun x y H Q => ∃ b, y = .bl b ∧ Q (.bl (decide (x = .bl b))) H) := by
  intro pins s σ H x y v u Q I rx ry h
  obtain ⟨b, rfl, q⟩ := h
  cases ry
  exact wpAny_is_plain (plain_bl rx b) ⟨.bl _, H, I, by rw [relV_bl rx b]; rfl, q⟩
theorem op_isNB : OpR X (compareOp .IsNot) (fun x y H Q => ∃ b, y = .bl b ∧ Q (.bl (!decide (x = .bl b))) H) := by
  intro pins s σ H x y v u Q I rx ry h
  obtain ⟨b, rfl, q⟩ := h
  cases ry
  exact wpAny_isNot_plain (plain_bl rx b) ⟨.bl _, H, I, by rw [relV_bl rx b]; rfl, q⟩
theorem do_is : DOp X (compareOp .Is) (isR true) := OpR.imp (op_isN.or op_isB) fun x y H Q ⟨dx, dy, M, Qd, lm, r1, r2, q, dv⟩ => by
  cases dy with
  | non => exact .inl ⟨r2, dv _ H (.bl _) M (Fr.refl _ _) lm rfl (by rw [rep_non r1]; exact q)⟩
  | bl b => exact .inr ⟨b, r2, dv _ H (.bl _) M (Fr.refl _ _) lm rfl (by rw [rep_bl r1]; exact q)⟩
  | _ => exact q.elim
theorem do_isnot : DOp X (compareOp .IsNot) (isR false) := OpR.imp (op_notN.or op_isNB) fun x y H Q ⟨dx, dy, M, Qd, lm, r1, r2, q, dv⟩ => by
  cases dy with
  | non => exact .inl ⟨r2, dv _ H (.bl _) M (Fr.refl _ _) lm rfl (by rw [rep_non r1]; exact q)⟩
  | bl b => exact .inr ⟨b, r2, dv _ H (.bl _) M (Fr.refl _ _) lm rfl (by rw [rep_bl r1]; exact q)⟩
  | _ => exact q.elim
end

/-! ### dicts -/
def nkT (k : D) : NestedKey := (nkOf k).getD .none
/-- a key that is a tuple -/
def keyT (k : D) : Bool := match k with
  | .tup _ => match nkOf k with
    | some n => decide (n.depth ≤ 8)
    | none => false
  | _ => false
/-- a key that is an int or a text -/
def keyS (k : D) : Bool := match k with
  | .int _ => true
  | .str _ => true
  | _ => false
theorem keyT_of {k : D} (h : keyT k = true) : ∃ ds n, k = .tup ds ∧ nkOf k = some n ∧ n.depth ≤ 8 := by
  cases k with
  | tup ds =>
    simp only [keyT] at h
    cases e : nkOf (.tup ds) with
    | none => rw [e] at h; cases h
    | some n => rw [e] at h; exact ⟨ds, n, rfl, rfl, of_decide_eq_true h⟩
  | _ => cases h
theorem keyS_of {k : D} (h : keyS k = true) : ∃ kk, k = kD kk := by
  cases k with
  | int i => exact ⟨.inl i, rfl⟩
  | str x => exact ⟨.inr x, rfl⟩
  | _ => cases h
theorem kD_inj {a b : Key} (h : kD a = kD b) : a = b := by
  cases a <;> cases b <;> simp_all [kD]
section
variable {P : Program} {w : World} {K : PySem.W.Frag} {H : Hp} {M : MH}
theorem KRep.val {kvs : List (D × D)} {vs : List (Key × V)} (r : KRep K H kvs vs) (k : Key) : (look (kD k) kvs = none ∧ valV vs k = none) ∨ ∃ d v, look (kD k) kvs = some d ∧ valV vs k = some v ∧ Rep K H d v := by
  induction r with
  | nil => exact .inl ⟨rfl, rfl⟩
  | @cons p q ps qs h t ih =>
    obtain ⟨a, d⟩ := p
    obtain ⟨b, v⟩ := q
    obtain ⟨h1, h2⟩ := h
    simp only at h1 h2
    by_cases e : b = k
    · subst e
      refine .inr ⟨d, v, ?_, ?_, h2⟩
      · simp [look, h1]
      · simp [valV]
    · have e2 : ¬ a = kD k := fun z => e (kD_inj (h1.symm.trans z))
      rcases ih with ⟨i1, i2⟩ | ⟨d', v', i1, i2, i3⟩
      · refine .inl ⟨by simp [look, e2, i1], ?_⟩
        simpa [valV, e] using i2
      · refine .inr ⟨d', v', by simp [look, e2, i1], ?_, i3⟩
        simpa [valV, e] using i2
theorem NRep.val {kvs : List (D × D)} {xs : List (NestedKey × Addr × Value)} (r : NRep K H kvs xs) {k : D} {n : NestedKey} (hk : nkOf k = some n) :
    (look k kvs = none ∧ atKey xs n = none) ∨ ∃ d v b u, look k kvs = some d ∧ atKey xs n = some (b, u) ∧ RelV v u ∧ Rep K H d v := by
  induction r with
  | nil => exact .inl ⟨rfl, rfl⟩
  | @cons p q ps qs h t ih =>
    obtain ⟨a, d⟩ := p
    obtain ⟨m, b, u⟩ := q
    obtain ⟨h1, h2, h3, v, h4, h5⟩ := h
    simp only at h1 h2 h3 h4 h5
    by_cases e : m = n
    · subst e
      have ea : a = k := nkOf_inj a k _ h1 hk
      subst ea
      refine .inr ⟨d, v, b, u, by simp [look], by simp [atKey], h4, h5⟩
    · have e2 : ¬ a = k := fun z => by subst z; rw [h1] at hk; exact e (Option.some.inj hk)
      rcases ih with ⟨i1, i2⟩ | ⟨d', v', b', u', i1, i2, i3, i4⟩
      · exact .inl ⟨by simp [look, e2, i1], by simpa [atKey, e] using i2⟩
      · exact .inr ⟨d', v', b', u', by simp [look, e2, i1], by simpa [atKey, e] using i2, i3, i4⟩
theorem look_mem {k d : D} : ∀ {kvs : List (D × D)}, look k kvs = some d → (k, d) ∈ kvs
  | [], h => by cases h
  | (a, x) :: r, h => by
    by_cases e : a = k
    · subst e
      simp only [look, if_true] at h
      cases h
      exact List.mem_cons_self
    · simp only [look, e, if_false] at h
      exact List.mem_cons_of_mem _ (look_mem h)
theorem Paired.map2 {α β : Type} {F G : α → β → Prop} {f : α → α} {g : β → β} : ∀ {l : List α} {m : List β}, Paired F l m → (∀ a b, F a b → G (f a) (g b)) → Paired G (l.map f) (m.map g)
  | _, _, .nil, _ => .nil
  | _, _, .cons r t, h => .cons (h _ _ r) (Paired.map2 t h)
theorem Paired.app {α β : Type} {F : α → β → Prop} : ∀ {l l' : List α} {m m' : List β}, Paired F l m → Paired F l' m' → Paired F (l ++ l') (m ++ m')
  | _, _, _, _, .nil, h => h
  | _, _, _, _, .cons r t, h => .cons r (Paired.app t h)
theorem Paired.filt {α β : Type} {F : α → β → Prop} {p : α → Bool} {q : β → Bool} : ∀ {l : List α} {m : List β}, Paired F l m → (∀ a b, F a b → p a = q b) → Paired F (l.filter p) (m.filter q)
  | _, _, .nil, _ => .nil
  | _, _, .cons (a := a) (b := b) r t, h => by
    have e := h a b r
    rw [List.filter_cons, List.filter_cons, e]
    split
    · exact .cons r (Paired.filt t h)
    · exact Paired.filt t h
theorem KRep.put {kvs : List (D × D)} {vs : List (Key × V)} (r : KRep K H kvs vs) (k : Key) {d : D} {v : V} (rd : Rep K H d v) : KRep K H (putD (kD k) d kvs) (putK vs k v) := by
  unfold putD putK
  have e : (look (kD k) kvs).isSome = (vs.any fun kv => decide (kv.1 = k)) := by
    rw [valV_any]
    rcases r.val k with ⟨h1, h2⟩ | ⟨_, _, h1, h2, _⟩ <;> rw [h1, h2] <;> rfl
  rw [e]
  split
  · refine Paired.map2 r fun a b ⟨h1, h2⟩ => ?_
    by_cases hb : b.1 = k
    · rw [if_pos (by rw [h1, hb]), if_pos hb]; exact ⟨h1, rd⟩
    · rw [if_neg (fun z => hb (kD_inj (h1.symm.trans z))), if_neg hb]; exact ⟨h1, h2⟩
  · exact Paired.app r (.cons ⟨rfl, rd⟩ .nil)
theorem NRep.put {kvs : List (D × D)} {xs : List (NestedKey × Addr × Value)} (r : NRep K H kvs xs) {k : D} {n : NestedKey} (hk : nkOf k = some n) (hn : n.depth ≤ 8) {b : Addr} (rk : Rep K H k (.ref b)) {d : D} {v : V} {u : Value} (rv : RelV v u) (rd : Rep K H d v) :
    NRep K H (putD k d kvs) (storedH xs n b u) := by
  unfold putD storedH
  have e : (look k kvs).isSome = (atKey xs n).isSome := by
    rcases r.val hk with ⟨h1, h2⟩ | ⟨_, _, _, _, h1, h2, _⟩ <;> rw [h1, h2] <;> rfl
  rw [e]
  split
  · refine Paired.map2 r fun p q ⟨h1, h2, h3, v', h4, h5⟩ => ?_
    unfold putAt
    by_cases hb : q.1 = n
    · have ep : p.1 = k := nkOf_inj _ _ n (by rw [h1, hb]) hk
      rw [if_pos ep, if_pos hb]
      exact ⟨h1, h2, h3, v, rv, rd⟩
    · rw [if_neg (fun z => by rw [z, hk] at h1; exact hb (Option.some.inj h1).symm), if_neg hb]
      exact ⟨h1, h2, h3, v', h4, h5⟩
  · exact Paired.app r (.cons ⟨hk, hn, rk, v, rv, rd⟩ .nil)
theorem KRep.del {kvs : List (D × D)} {vs : List (Key × V)} (r : KRep K H kvs vs) (k : Key) : KRep K H (delD (kD k) kvs) (dropK vs k) :=
  Paired.filt r fun a b ⟨h1, _⟩ => by
    by_cases hb : b.1 = k
    · have : a.1 = kD k := by rw [h1, hb]
      simp [hb, this]
    · have : ¬ a.1 = kD k := fun z => hb (kD_inj (h1.symm.trans z))
      simp [hb, this]
theorem NRep.del {kvs : List (D × D)} {xs : List (NestedKey × Addr × Value)} (r : NRep K H kvs xs) {k : D} {n : NestedKey} (hk : nkOf k = some n) : NRep K H (delD k kvs) (withoutH xs n) :=
  Paired.filt r fun a b ⟨h1, _⟩ => by
    by_cases hb : b.1 = n
    · have : a.1 = k := nkOf_inj _ _ n (by rw [h1, hb]) hk
      simp [hb, this]
    · have : ¬ a.1 = k := fun z => by rw [z, hk] at h1; exact hb (Option.some.inj h1).symm
      simp [hb, this]
end
mutual
/-- a key below is that key above -/
theorem rep_key {X : Cx} {pins : List (Addr × Obj)} {σ : L2.St} {H : Hp} {s : Shared} (I : Inv X pins σ H s) : ∀ (k : D) (n : NestedKey) (v : V) (u : Value), nkOf k = some n → Rep X.K H k v → RelV v u → NestedIs s.heap n u
  | .non, n, v, u, hk, r, ru => by rw [nkOf] at hk; cases hk; rw [Rep] at r; subst r; cases ru; exact .none
  | .int i, n, v, u, hk, r, ru => by rw [nkOf] at hk; cases hk; rw [Rep] at r; subst r; obtain ⟨t, rfl⟩ := ru; exact .int _ _
  | .str x, n, v, u, hk, r, ru => by rw [nkOf] at hk; cases hk; rw [Rep] at r; subst r; obtain ⟨t, rfl⟩ := ru; exact .text _ _
  | .bl _, n, v, u, hk, r, ru => by simp [nkOf] at hk
  | .rol _, n, v, u, hk, r, ru => by simp [nkOf] at hk
  | .ref _, n, v, u, hk, r, ru => by simp [nkOf] at hk
  | .ty _, n, v, u, hk, r, ru => by simp [nkOf] at hk
  | .tup ds, n, v, u, hk, r, ru => by
    rw [nkOf, Option.map_eq_some_iff] at hk
    obtain ⟨ks, hks, rfl⟩ := hk
    rw [Rep] at r
    obtain ⟨a, vs, rfl, s1, rs⟩ := r
    cases ru
    obtain ⟨its, rv, ⟨o, ho, hc, m, hd⟩, _⟩ := I.tuple s1
    exact .tup ho hc hd (reps_key I ds ks vs its hks rs rv)
theorem reps_key {X : Cx} {pins : List (Addr × Obj)} {σ : L2.St} {H : Hp} {s : Shared} (I : Inv X pins σ H s) : ∀ (ks : List D) (ns : List NestedKey) (vs : List V) (us : List Value), nksOf ks = some ns → Reps X.K H ks vs → Vals vs us → NestedAll s.heap ns us
  | [], ns, vs, us, hk, r, ru => by rw [nksOf] at hk; cases hk; rw [Reps] at r; subst r; cases ru; exact .nil
  | k :: ks, ns, vs, us, hk, r, ru => by
    rw [nksOf] at hk
    cases e1 : nkOf k with
    | none => simp [e1] at hk
    | some n =>
      cases e2 : nksOf ks with
      | none => simp [e1, e2] at hk
      | some m =>
        simp only [e1, e2, Option.some.injEq] at hk
        subst hk
        rw [Reps] at r
        obtain ⟨v, rr, rfl, r1, r2⟩ := r
        cases ru with
        | cons ru1 ru2 => exact .cons (rep_key I k n v _ e1 r1 ru1) (reps_key I ks m rr _ e2 r2 ru2)
end
section
variable {X : Cx} {pins : List (Addr × Obj)} {σ : L2.St} {H : Hp} {s : Shared} {M : MH} {a : Addr} {kvs : List (D × D)}
theorem dcn_of (I : Inv X pins σ H s) (lm : LinkM X.prog X.w X.K H M) (h : M a = some (.dcn kvs)) :
    ∃ xs, NRep X.K H kvs xs ∧ s.heap.DictOfH (nestedKind X.prog X.w) a xs ∧ (a == sysModules) = false ∧ xs.length ≤ sizeLine ∧ ∃ φ, H a = some (.ext φ) := by
  obtain ⟨xs, hH, hS, hz, nd, r⟩ := lm a _ h
  have ok : ObjOk X.prog X.w H s.heap a (NDict X.prog X.w xs a) := I.hok a _ hH
  obtain ⟨⟨o, es, ep, ho, he, hd, hes⟩, _, _⟩ := ok
  refine ⟨xs, r, ⟨o, es, ep, ho, he, hd, hes, fun x hx => ?_, nd⟩, hS, hz, _, hH⟩
  have key : ∀ {kvs : List (D × D)} {xs : List (NestedKey × Addr × Value)}, NRep X.K H kvs xs → ∀ x ∈ xs, (nestedKind X.prog X.w).is s.heap x.1 x.2.1 := by
    intro kvs xs r
    induction r with
    | nil => intro x hx; cases hx
    | @cons p q ps qs h t ih =>
      intro x hx
      rcases List.mem_cons.mp hx with e | hx
      · subst e
        exact ⟨rep_key I p.1 _ _ _ h.1 h.2.2.1 rfl, h.2.1⟩
      · exact ih x hx
  exact key r x hx
/-- behind a change of such a dict -/
theorem dcn_put {xs : List (NestedKey × Addr × Value)} {h' : Heap} {t' : Nat} {o0 : MO} (I : Inv X pins σ H s) (lm : LinkM X.prog X.w X.K H M) (h0 : M a = some o0) (hm : Mut (H a)) (hS : (a == sysModules) = false) (hz : xs.length ≤ sizeLine) (r : NRep X.K H kvs xs)
    (hd : h'.DictOfH (nestedKind X.prog X.w) a xs) (hs : Heap.SameBut a s.heap h') :
    ∃ H', Inv X pins σ H' { s with heap := h', toks := t' } ∧ LinkM X.prog X.w X.K H' (mup M a (.dcn kvs)) ∧ Fr M H (mup M a (.dcn kvs)) H' := by
  obtain ⟨o, es, ep, ho, he, hdd, hes, his, nd⟩ := hd
  refine ⟨L2.upd H a (NDict X.prog X.w xs a), I.write (e := a) hm (.inl rfl) (fun b u hb e => (hs.2 b hb).trans e) ⟨o, ho⟩ ?_, lm.put h0 ⟨xs, upd_same, hS, hz, nd, Paired.mapP r fun p q ⟨z1, z2, z3, v, z4, z5⟩ => ⟨z1, z2, (lm.immPut h0).rep _ _ z3, v, z4, (lm.immPut h0).rep _ _ z5⟩⟩⟩
  refine ⟨⟨o, es, ep, ho, he, hdd, hes⟩, ⟨o, ho⟩, fun h1 h2 ⟨o', es', ep', e1, e2, e3, e4⟩ k => ⟨o', es', ep', k o' e1, e2, e3, e4⟩⟩
end
end DL
namespace DL
open PySem PySem.Spec PyProof.Rows L2
section
variable {X : Cx}
/-! ### in, not in -/
theorem OpR.dor {f : Value → Value → Sem Value} {r : R2} {q : DR2} (h : OpR X f r) : OpR X f r := h
theorem any_okD {n m : Nat} {x : D} (hx : okD n x = true) : ∀ {ds : List D}, okDs m ds = true → ((pyTs ds).any fun z => PyData.eqv z (pyT x)) = decide (x ∈ ds)
  | [], _ => by simp [pyTs]
  | d :: ds, h => by
    rw [okDs, Bool.and_eq_true] at h
    rw [pyTs, List.any_cons, any_okD hx h.2, eqv_okD d x _ _ h.1 hx, Bool.eq_iff_iff]
    simp only [Bool.or_eq_true, decide_eq_true_eq, List.mem_cons]
    exact ⟨fun z => z.imp Eq.symm id, fun z => z.imp Eq.symm id⟩
theorem op_inTD (k : Bool) (hu : X.A.units + 65 < cLine) : OpR X (compareOp (if k = true then .In else .NotIn)) (fun x y H Q => ∃ d ds, Dp X.K H x d ∧ Dp X.K H y (.tuple ds) ∧ SeqAt.shaped d = true ∧ SeqAt.shaped (.tuple ds) = true ∧ Q (.bl (if k = true then (ds.any fun z => PyData.eqv z d) else !(ds.any fun z => PyData.eqv z d))) H) := by
  intro pins s σ H x y v u Q I rx ry h
  obtain ⟨d, ds, hd, he, sd, se, q⟩ := h
  obtain ⟨as, r1⟩ := Dp.reads I d x v hd rx
  obtain ⟨bs, r2⟩ := Dp.reads I (.tuple ds) y u he ry
  cases k with
  | true => exact SeqAt.in_tuple_reads r2 r1 (SeqAt.canLay_of_shaped se) (SeqAt.canLay_of_shaped sd) (room_in_shaped sd hu) ⟨.bl _, H, I, rfl, q⟩
  | false => exact SeqAt.notIn_tuple_reads r2 r1 (SeqAt.canLay_of_shaped se) (SeqAt.canLay_of_shaped sd) (room_in_shaped sd hu) ⟨.bl _, H, I, rfl, q⟩
theorem op_inLD (k : Bool) (hu : X.A.units + 65 < cLine) : OpR X (compareOp (if k = true then .In else .NotIn)) (fun x y H Q => ∃ d ds, Dp X.K H x d ∧ Dp X.K H y (.list ds) ∧ SeqAt.shaped d = true ∧ SeqAt.shaped (.list ds) = true ∧ Q (.bl (if k = true then (ds.any fun z => PyData.eqv z d) else !(ds.any fun z => PyData.eqv z d))) H) := by
  cases k with
  | true => exact op_inD hu
  | false => exact op_notInD hu
theorem op_inSg (k : Bool) : OpR X (compareOp (if k = true then .In else .NotIn)) (fun x y H Q => ∃ (c : Nat) (z : Str), x = .str ⟨#[c]⟩ ∧ y = .str z ∧ Q (.bl (if k = true then decide (c ∈ z.cps.toList) else !decide (c ∈ z.cps.toList))) H) := by
  cases k with
  | true => exact op_in_sign
  | false => exact op_notIn_sign
def yes (k b : Bool) : Bool := if k = true then b else !b
def inR (k : Bool) : DR2 := fun x y M Q => match y with
  | .str z => match x with
    | .str t => match t.cps.toList with
      | [c] => Q (.bl (yes k (decide (c ∈ z.cps.toList)))) M
      | _ => False
    | _ => False
  | .tup ds => (okD 50 x = true ∧ okDs 50 ds = true) ∧ Q (.bl (yes k (decide (x ∈ ds)))) M
  | .rol ds => (okD 50 x = true ∧ okDs 50 ds = true) ∧ Q (.bl (yes k (decide (x ∈ ds)))) M
  | .ref a => match M a with
    | some (.lst ds) => (okD 50 x = true ∧ okDs 50 ds = true) ∧ Q (.bl (yes k (decide (x ∈ ds)))) M
    | some (.dct kvs) => keyS x = true ∧ Q (.bl (yes k (look x kvs).isSome)) M
    | some (.dcn kvs) => keyT x = true ∧ Q (.bl (yes k (look x kvs).isSome)) M
    | _ => False
  | _ => False
theorem do_inK (k : Bool) (hu : X.A.units + 65 < cLine) : DOp X (compareOp (if k = true then .In else .NotIn)) (inR k) := fun pins s σ H x y v u Q I rx ry ⟨dx, dy, M, Qd, lm, r1, r2, q, dv⟩ => by
  have fin : ∀ b, Qd (.bl b) M → Q (.bl b) H := fun b q => dv _ H (.bl b) M (Fr.refl _ _) lm rfl q
  cases dy with
  | str z =>
    cases dx with
    | str t =>
      simp only [inR] at q
      split at q
      · rename_i c hc
        have e : t = ⟨#[c]⟩ := by
          cases t with
          | mk cps =>
            simp only at hc
            rw [show cps = #[c] from Array.toList_inj.mp hc]
        subst e
        exact op_inSg k pins s σ H x y v u Q I rx ry ⟨c, z, r1, r2, fin _ q⟩
      · exact q.elim
    | _ => exact q.elim
  | tup ds =>
    obtain ⟨⟨h1, h2⟩, q⟩ := q
    have h2' : okD 51 (.tup ds) = true := by rw [okD]; exact h2
    exact op_inTD k hu pins s σ H x y v u Q I rx ry ⟨_, _, rep_dp _ _ _ h1 r1, rep_dp _ _ _ h2' r2, okD_shaped h1 (by decide), okD_shaped h2' (by decide), fin _ (by rw [any_okD h1 h2]; exact q)⟩
  | rol ds =>
    obtain ⟨⟨h1, h2⟩, q⟩ := q
    have h2' : okD 51 (.rol ds) = true := by rw [okD]; exact h2
    exact op_inLD k hu pins s σ H x y v u Q I rx ry ⟨_, _, rep_dp _ _ _ h1 r1, rep_dp _ _ _ h2' r2, okD_shaped h1 (by decide), okD_shaped h2' (by decide), fin _ (by rw [any_okD h1 h2]; exact q)⟩
  | ref a =>
    simp only [inR] at q
    split at q
    · rename_i ds hm
      obtain ⟨⟨h1, h2⟩, q⟩ := q
      have e2 : valM M (.ref a) = .rol ds := by simp [valM, hm]
      have h2' : okD 51 (valM M (.ref a)) = true := by rw [e2, okD]; exact h2
      have dp := valM_dp lm h2' r2
      rw [e2] at dp h2'
      exact op_inLD k hu pins s σ H x y v u Q I rx ry ⟨_, _, rep_dp _ _ _ h1 r1, dp, okD_shaped h1 (by decide), okD_shaped h2' (by decide), fin _ (by rw [any_okD h1 h2]; exact q)⟩
    · rename_i kvs hm
      obtain ⟨h1, q⟩ := q
      obtain ⟨kk, rfl⟩ := keyS_of h1
      obtain ⟨vs, hv, r⟩ := lm a _ hm
      rw [Rep] at r2
      subst r2
      obtain rfl : u = Value.ref a := ry
      have ex : x = kV kk := by cases kk <;> exact r1
      subst ex
      have e : (valV vs kk).isSome = (look (kD kk) kvs).isSome := by
        rcases r.val kk with ⟨e1, e2⟩ | ⟨_, _, e1, e2, _⟩ <;> rw [e1, e2] <;> rfl
      cases k with
      | true => exact d_in (by omega) I (DGet.k (k := kk) hv) rx fun s' I' => ⟨.bl _, H, I', rfl, fin _ (by rw [e]; exact q)⟩
      | false => exact d_notIn (by omega) I (DGet.k (k := kk) hv) rx fun s' I' => ⟨.bl _, H, I', rfl, fin _ (by rw [e]; exact q)⟩
    · rename_i kvs hm
      obtain ⟨h1, q⟩ := q
      obtain ⟨ds, n, rfl, hn, hd⟩ := keyT_of h1
      obtain ⟨xs, r, dd, hS, hz, _⟩ := dcn_of I lm hm
      rw [Rep] at r2
      subst r2
      obtain rfl : u = Value.ref a := ry
      have isk := rep_key I _ n x v hn r1 rx
      rw [Rep] at r1
      obtain ⟨b, vs, rfl, _, _⟩ := r1
      cases rx
      have e : (atKey xs n).isSome = (look (.tup ds) kvs).isSome := by
        rcases r.val hn with ⟨e1, e2⟩ | ⟨_, _, _, _, e1, e2, _⟩ <;> rw [e1, e2] <;> rfl
      have room : (nestedKind X.prog X.w).room X.A.in1 := by show X.A.units + 1 + 8 < cLine; omega
      cases k with
      | true => exact wpAny_in_heap (knd := nestedKind X.prog X.w) room ⟨isk, hd⟩ hS dd ⟨.bl _, H, I.tok _, rfl, fin _ (by rw [e]; exact q)⟩
      | false => exact wpAny_notIn_heap (knd := nestedKind X.prog X.w) room ⟨isk, hd⟩ hS dd ⟨.bl _, H, I.tok _, rfl, fin _ (by rw [e]; exact q)⟩
    · exact q.elim
  | _ => exact q.elim
theorem do_in (hu : X.A.units + 65 < cLine) : DOp X (compareOp .In) (inR true) := do_inK true hu
theorem do_notin (hu : X.A.units + 65 < cLine) : DOp X (compareOp .NotIn) (inR false) := do_inK false hu

/-! ### items -/
def ixR : DR2 := fun x y M Q => match x with
  | .tup ds => match y with
    | .int i => match atI ds i with
      | some d => Q d M
      | none => False
    | _ => False
  | .rol ds => match y with
    | .int i => match atI ds i with
      | some d => Q d M
      | none => False
    | _ => False
  | .str z => match y with
    | .int i => z.length ≤ sizeLine ∧ match atI z.cps.toList i with
      | some c => Q (charD c) M
      | none => False
    | _ => False
  | .ref a => match M a with
    | some (.lst ds) => match y with
      | .int i => match atI ds i with
        | some d => Q d M
        | none => False
      | _ => False
    | some (.dct kvs) => keyS y = true ∧ match look y kvs with
      | some d => Q d M
      | none => False
    | some (.dcn kvs) => keyT y = true ∧ match look y kvs with
      | some d => Q d M
      | none => False
    | _ => False
  | _ => False
theorem atI_rep {K : PySem.W.Frag} {H : Hp} {ds : List D} {vs : List V} {i : Int} {d : D} (r : Reps K H ds vs) (h : atI ds i = some d) : ∃ v, atI vs i = some v ∧ Rep K H d v := by
  unfold atI at h ⊢
  rw [r.length]
  cases e : ixN ds.length i with
  | none => rw [e] at h; cases h
  | some j =>
    rw [e] at h
    exact Reps.get r h
theorem ix_any (hu : X.A.units + 65 < cLine) : IxR X (liftR2 X.prog X.w X.K ixR) := fun value slice pins s σ H x y v u Q I rx ry ⟨dx, dy, M, Qd, lm, r1, r2, q, dv⟩ hs => by
  have fin : ∀ (v : V) (d : D), Rep X.K H d v → Qd d M → Q v H := fun v d r q => dv v H d M (Fr.refl _ _) lm r q
  cases dx with
  | tup ds =>
    cases dy with
    | int i =>
      simp only [ixR] at q
      split at q
      · rename_i d hd
        rw [Rep] at r1
        obtain ⟨a, vs, rfl, s1, rs⟩ := r1
        obtain ⟨w', hw, rw'⟩ := atI_rep rs hd
        exact ix_tup value slice pins s σ H _ y v u Q I rx ry ⟨a, vs, i, w', rfl, r2, s1, hw, fin _ _ rw' q⟩ hs
      · exact q.elim
    | _ => exact q.elim
  | rol ds =>
    cases dy with
    | int i =>
      simp only [ixR] at q
      split at q
      · rename_i d hd
        rw [Rep] at r1
        obtain ⟨a, vs, rfl, s1, rs⟩ := r1
        obtain ⟨w', hw, rw'⟩ := atI_rep rs hd
        exact ix_list value slice pins s σ H _ y v u Q I rx ry ⟨a, vs, i, w', rfl, r2, s1.sq, hw, fin _ _ rw' q⟩ hs
      · exact q.elim
    | _ => exact q.elim
  | str z =>
    cases dy with
    | int i =>
      simp only [ixR] at q
      obtain ⟨hz, q⟩ := q
      split at q
      · rename_i c hc
        exact ix_str value slice pins s σ H _ y v u Q I rx ry ⟨z, i, c, r1, r2, hz, hc, fin _ (charD c) rfl q⟩ hs
      · exact q.elim
    | _ => exact q.elim
  | ref a =>
    simp only [ixR] at q
    split at q
    · rename_i ds hm
      cases dy with
      | int i =>
        simp only at q
        split at q
        · rename_i d hd
          obtain ⟨vs, hv, rs⟩ := lm a _ hm
          obtain ⟨w', hw, rw'⟩ := atI_rep rs hd
          exact ix_list value slice pins s σ H _ y v u Q I rx ry ⟨a, vs, i, w', r1, r2, .inl (.inl hv), hw, fin _ _ rw' q⟩ hs
        · exact q.elim
      | _ => exact q.elim
    · rename_i kvs hm
      obtain ⟨h1, q⟩ := q
      obtain ⟨kk, rfl⟩ := keyS_of h1
      obtain ⟨vs, hv, r⟩ := lm a _ hm
      rw [Rep] at r1
      subst r1
      obtain rfl : v = Value.ref a := rx
      have ey : y = kV kk := by cases kk <;> exact r2
      subst ey
      rcases r.val kk with ⟨e1, e2⟩ | ⟨d, w', e1, e2, r3⟩
      · rw [e1] at q; exact q.elim
      · rw [e1] at q
        have g : DGet H a (kV kk) (some w') := by rw [← e2]; exact DGet.k hv
        exact tail_any (dict_typeIs I g) PySem.F.slot_dict_getitem.lookup (d_getItem (by omega) I g ry fun u' s' I' ru => ⟨w', H, I', ru, fin _ _ r3 q⟩) hs
    · rename_i kvs hm
      obtain ⟨h1, q⟩ := q
      obtain ⟨ds, n, rfl, hn, hd⟩ := keyT_of h1
      obtain ⟨xs, r, dd, hS, hz, _⟩ := dcn_of I lm hm
      rw [Rep] at r1
      subst r1
      obtain rfl : v = Value.ref a := rx
      have isk := rep_key I _ n y u hn r2 ry
      rw [Rep] at r2
      obtain ⟨b, vs, rfl, _, _⟩ := r2
      cases ry
      have room : (nestedKind X.prog X.w).room X.A.in1 := by show X.A.units + 1 + 8 < cLine; omega
      rcases r.val hn with ⟨e1, e2⟩ | ⟨d, w', b', u', e1, e2, r3, r4⟩
      · rw [e1] at q; exact q.elim
      · rw [e1] at q
        exact tail_any dd.typeIs PySem.F.slot_dict_getitem.lookup (wpAny_getItem_heap (knd := nestedKind X.prog X.w) room ⟨isk, hd⟩ dd e2 ⟨w', H, I.tok _, r3, fin _ _ r4 q⟩) hs
    · exact q.elim
  | _ => exact q.elim
theorem de_ix {W : WX} {a b : Expr} {ta tb : DTE} {pos : Pos} (hu : X.A.units + 65 < cLine) (ha : DE X W a ta) (hb : DE X W b tb) (hs : PlainIx b := by exact fun _ _ => rfl) : DE X W (.Subscript a b pos) (dBin ixR ta tb) :=
  ⟨pe_imp (pe_ix (ix_any hu) ha.pe hb.pe hs) fun σ H Q h => lift_bin h⟩

/-! ### items stored -/
def setR : DTSet := fun o i v M Q => match o with
  | .ref a => match M a with
    | some (.lst ds) => match i with
      | .int k => match ixN ds.length k with
        | some j => Q (mup M a (.lst (ds.set j v)))
        | none => False
      | _ => False
    | some (.dct kvs) => keyS i = true ∧ kvs.length < sizeLine ∧ Q (mup M a (.dct (putD i v kvs)))
    | some (.dcn kvs) => keyT i = true ∧ kvs.length < sizeLine ∧ Q (mup M a (.dcn (putD i v kvs)))
    | _ => False
  | _ => False
theorem Reps.set {K : PySem.W.Frag} {H : Hp} {d : D} {v : V} (r : Rep K H d v) : ∀ {ds : List D} {vs : List V} (i : Nat), Reps K H ds vs → Reps K H (ds.set i d) (vs.set i v)
  | [], _, _, s => by rw [Reps] at s; subst s; rfl
  | _ :: _, _, 0, s => by
    rw [Reps] at s
    obtain ⟨v', rr, rfl, _, r2⟩ := s
    exact ⟨v, rr, rfl, r, r2⟩
  | _ :: _, _, i + 1, s => by
    rw [Reps] at s
    obtain ⟨v', rr, rfl, r1, r2⟩ := s
    exact ⟨v', _, rfl, r1, Reps.set r i r2⟩
theorem Paired.len {α β : Type} {F : α → β → Prop} {l : List α} {m : List β} (h : Paired F l m) : l.length = m.length := Paired.length h
theorem put_len (k d : D) (kvs : List (D × D)) : (putD k d kvs).length ≤ kvs.length + 1 := by
  unfold putD
  split
  · rw [List.length_map]; omega
  · rw [List.length_append]; exact Nat.le_refl _
theorem do_set (hu : X.A.units + 65 < cLine) : DSet X setR := fun pins s σ H o i v ov iv u Q I ro ri rv ⟨od, id, vd, M, Qd, lm, r1, r2, r3, q, dn⟩ => by
  cases od with
  | ref a =>
    rw [Rep] at r1
    subst r1
    simp only [setR] at q
    split at q
    · rename_i ds hm
      cases id with
      | int k =>
        simp only at q
        split at q
        · rename_i j hj
          obtain ⟨vs, hv, rs⟩ := lm a _ hm
          have l2 := lm.put (u := .lst (vs.set j v)) (o := .lst (ds.set j vd)) hm ⟨_, upd_same, (lm.immPut hm).reps _ _ (Reps.set r3 j rs)⟩
          exact set_list pins s σ H _ _ v ov iv u Q I ro ri rv ⟨a, vs, k, j, rfl, r2, hv, by rw [rs.length]; exact hj, dn _ _ l2.2 l2.1 q⟩
        · exact q.elim
      | _ => exact q.elim
    · rename_i kvs hm
      obtain ⟨h1, h2, q⟩ := q
      obtain ⟨kk, rfl⟩ := keyS_of h1
      obtain ⟨vs, hv, r⟩ := lm a _ hm
      obtain rfl : ov = Value.ref a := ro
      have ey : i = kV kk := by cases kk <;> exact r2
      subst ey
      have l2 := lm.put (u := .dK (putK vs kk v)) (o := .dct (putD (kD kk) vd kvs)) hm ⟨_, upd_same, Paired.mapP (r.put kk r3) fun p q z => ⟨z.1, (lm.immPut hm).rep _ _ z.2⟩⟩
      exact d_setItem (by omega) I (DPut.k hv (by rw [← Paired.len r]; exact h2)) ri rv fun s' I' => ⟨_, I', dn _ _ l2.2 l2.1 q⟩
    · rename_i kvs hm
      obtain ⟨h1, h2, q⟩ := q
      obtain ⟨ds, n, rfl, hn, hd⟩ := keyT_of h1
      obtain ⟨xs, r, dd, hS, hz, φ, hφ⟩ := dcn_of I lm hm
      obtain rfl : ov = Value.ref a := ro
      have isk := rep_key I _ n i iv hn r2 ri
      have r2' := r2
      rw [Rep] at r2
      obtain ⟨b, vs, rfl, _, _⟩ := r2
      cases ri
      have room : (nestedKind X.prog X.w).room X.A.in1 := by show X.A.units + 1 + 8 < cLine; omega
      refine wpAny_setItem_heap (knd := nestedKind X.prog X.w) room ⟨isk, hd⟩ dd (fun h' dd' hs => ?_) hz
      have rn := r.put hn hd r2' rv r3
      have hl : (storedH xs n b u).length ≤ sizeLine := by
        rw [← Paired.len rn]
        have := put_len (.tup ds) vd kvs
        omega
      obtain ⟨H', I', l', f'⟩ := dcn_put (t' := s.toks + (nestedKind X.prog X.w).draws n) I lm hm (by rw [hφ]; exact True.intro) hS hl rn dd' hs
      exact ⟨H', I', dn _ _ f' l' q⟩
    · exact q.elim
  | _ => exact q.elim
end
end DL
namespace DL
open PySem PySem.Spec PyProof.Rows L2
/-! ### slices -/
def cutD (xs : List D) (lo hi : Option Int) : List D := (xs.drop (HT.sIx xs.length 0 lo)).take (HT.sIx xs.length xs.length hi - HT.sIx xs.length 0 lo)
theorem cutD_from (xs : List D) (k : Nat) : cutD xs (some (k : Int)) none = xs.drop k := by
  unfold cutD
  rw [HT.sIx_nat, HT.sIx_none]
  by_cases h : k ≤ xs.length
  · rw [Nat.min_eq_left h]
    exact List.take_of_length_le (by rw [List.length_drop]; exact Nat.le_refl _)
  · have h' : xs.length ≤ k := by omega
    rw [Nat.min_eq_right h', Nat.sub_self, List.take_zero, List.drop_eq_nil_iff.mpr h']
theorem cutD_to (xs : List D) (k : Nat) : cutD xs none (some (k : Int)) = xs.take k := by
  unfold cutD
  rw [HT.sIx_none, HT.sIx_nat, List.drop_zero, Nat.sub_zero]
  by_cases h : k ≤ xs.length
  · rw [Nat.min_eq_left h]
  · have h' : xs.length ≤ k := by omega
    rw [Nat.min_eq_right h', List.take_length, List.take_of_length_le h']
theorem cutD_one (xs : List D) : cutD xs (some 1) none = xs.drop 1 := cutD_from xs 1
abbrev DTO := DSt → MH → DXW → (Option Int → MH → Prop) → Prop
structure DO (X : Cx) (W : WX) (e : Option Expr) (t : DTO) : Prop where
  po : PO X e (fun σ H Q => ∃ τ M Ed Qd, Slots X.K H σ τ ∧ LinkM X.prog X.w X.K H M ∧ t τ M Ed Qd ∧ (∀ o H' M', Fr M H M' H' → LinkM X.prog X.w X.K H' M' → Qd o M' → Q o H') ∧ DownX X.prog X.w X.K M H Ed W)
def dNoPart : DTO := fun _ M _ Q => Q none M
def dPart (t : DTE) : DTO := fun τ M E Q => t τ M E fun x M1 => match x with
  | .int i => Q (some i) M1
  | _ => False
theorem po_imp {X : Cx} {e : Option Expr} {t t' : TO} (h : PO X e t) (i : ∀ σ H Q, t' σ H Q → t σ H Q) : PO X e t' := ⟨fun pins s σ H Q I q => h.run pins s σ H Q I (i σ H Q q)⟩
section
variable {X : Cx} {W : WX} {e : Expr} {te : DTE} {lo hi : Option Expr} {tl th : DTO} {pos p2 : Pos}
theorem do_none : DO X W none dNoPart := ⟨po_imp po_none fun σ H Q ⟨τ, M, Ed, Qd, sl, lm, q, dv, dx⟩ => dv none H M (Fr.refl _ _) lm q⟩
theorem do_some (h : DE X W e te) : DO X W (some e) (dPart te) := ⟨po_imp (po_some h.pe) fun σ H Q ⟨τ, M, Ed, Qd, sl, lm, q, dv, dx⟩ => ⟨τ, M, Ed, _, sl, lm, q, fun v H1 d M1 f l r q1 => by
  cases d with
  | int i => exact ⟨i, r, dv _ H1 M1 f l q1⟩
  | _ => exact q1.elim, dx⟩⟩
def sliceR (x : D) (lo hi : Option Int) (M : MH) (Q : DVK) : Prop := match x with
  | .tup ds => Q (.tup (cutD ds lo hi)) M
  | .rol ds => ∀ p, M p = none → Q (.ref p) (mup M p (.lst (cutD ds lo hi)))
  | .str z => z.length ≤ sizeLine ∧ Q (.str (cutS z lo hi)) M
  | .ref a => match M a with
    | some (.lst ds) => ∀ p, M p = none → Q (.ref p) (mup M p (.lst (cutD ds lo hi)))
    | _ => False
  | _ => False
def dSlice (te : DTE) (tl th : DTO) : DTE := fun τ M E Q => te τ M E fun x M1 => tl τ M1 E fun l M2 => th τ M2 E fun u M3 => sliceR x l u M3 Q
theorem Reps.take {K : PySem.W.Frag} {H : Hp} : ∀ {ds : List D} {vs : List V} (n : Nat), Reps K H ds vs → Reps K H (ds.take n) (vs.take n)
  | _, _, 0, _ => rfl
  | [], _, _ + 1, r => by rw [Reps] at r; subst r; rfl
  | d :: ds, _, n + 1, r => by
    rw [Reps] at r
    obtain ⟨v, rr, rfl, r1, r2⟩ := r
    exact ⟨v, _, rfl, r1, Reps.take n r2⟩
theorem Reps.drop {K : PySem.W.Frag} {H : Hp} : ∀ {ds : List D} {vs : List V} (n : Nat), Reps K H ds vs → Reps K H (ds.drop n) (vs.drop n)
  | _, _, 0, r => r
  | [], _, _ + 1, r => by rw [Reps] at r; subst r; rfl
  | d :: ds, _, n + 1, r => by
    rw [Reps] at r
    obtain ⟨v, rr, rfl, r1, r2⟩ := r
    exact Reps.drop n r2
theorem Reps.cut {K : PySem.W.Frag} {H : Hp} {ds : List D} {vs : List V} (r : Reps K H ds vs) (lo hi : Option Int) : Reps K H (cutD ds lo hi) (cutV vs lo hi) := by
  unfold cutD cutV
  rw [r.length]
  exact (r.drop _).take _
theorem de_slice (he : DE X W e te) (hl : DO X W lo tl) (hh : DO X W hi th) : DE X W (.Subscript e (.Slice lo hi none p2) pos) (dSlice te tl th) :=
  ⟨pe_imp (pe_slice ((sl_list.or sl_tupA).or sl_str) he.pe hl.po hh.po) fun σ H Q ⟨τ, M, Ed, Qd, sl, lm, q, dv, dx⟩ => ⟨τ, M, Ed, _, sl, lm, q, fun x H1 d M1 f1 l1 r1 q1 =>
    ⟨τ, M1, Ed, _, (f1.imm lm).slots sl, l1, q1, fun l H2 M2 f2 l2 q2 => ⟨τ, M2, Ed, _, ((f1.trans f2).imm lm).slots sl, l2, q2, fun u H3 M3 f3 l3 q3 => by
      have f13 := f1.trans (f2.trans f3)
      have r3 := (f2.trans f3).imm l1 |>.rep _ _ r1
      have dv3 := dv.step f13
      cases d with
      | tup ds =>
        rw [Rep] at r3
        obtain ⟨a, vs, rfl, s1, rs⟩ := r3
        refine .inl (.inr ⟨a, vs, rfl, s1, fun ⟨h1, h2⟩ => ?_, fun _ p hp => new_tup l3 dv3 (rs.cut l u) q3 hp⟩)
        have e : cutD ds l u = ds := by
          unfold cutD
          rw [← rs.length, h1, h2, List.drop_zero, Nat.sub_zero, rs.length, List.take_length]
        have q4 : Qd (.tup (cutD ds l u)) M3 := q3
        rw [e] at q4
        exact dv3 _ H3 (.tup ds) M3 (Fr.refl _ _) l3 ⟨a, vs, rfl, s1, rs⟩ q4
      | rol ds =>
        rw [Rep] at r3
        obtain ⟨a, vs, rfl, s1, rs⟩ := r3
        exact .inl (.inl ⟨a, vs, rfl, s1.sq, fun p hp => new_lst l3 dv3 (rs.cut l u) q3 hp⟩)
      | str z => exact .inr ⟨z, r3, q3.1, dv3 _ H3 (.str _) M3 (Fr.refl _ _) l3 rfl q3.2⟩
      | ref a =>
        simp only [sliceR] at q3
        split at q3
        · rename_i ds hm
          obtain ⟨vs, hv, rs⟩ := l3 a _ hm
          exact .inl (.inl ⟨a, vs, r3, .inl (.inl hv), fun p hp => new_lst l3 dv3 (rs.cut l u) q3 hp⟩)
        · exact q3.elim
      | _ => exact q3.elim, dx.step (f1.trans f2)⟩, dx.step f1⟩, dx⟩⟩
end
/-! ### calls of what is built in -/
abbrev DRC := List D → MH → DVK → Prop
def liftC (P : Program) (w : World) (K : PySem.W.Frag) (r : DRC) : List V → Hp → VK → Prop := fun vs H Q => ∃ ds M Qd, LinkM P w K H M ∧ Reps K H ds vs ∧ r ds M Qd ∧ DownV P w K M H Qd Q
def DCall (X : Cx) (f : Value) (r : DRC) : Prop := CallR X f (liftC X.prog X.w X.K r)
def dCB (r : DRC) (t : DTA) : DTE := fun τ M E Q => t τ M E fun ds M1 => r ds M1 Q
theorem callR_imp {X : Cx} {f : Value} {r r' : List V → Hp → VK → Prop} (h : CallR X f r) (i : ∀ vs H Q, r' vs H Q → r vs H Q) : CallR X f r' := fun pins s σ H xs us Q I r1 q => h pins s σ H xs us Q I r1 (i _ _ _ q)
/-- .. of a method -/
abbrev DRM := D → List D → MH → DVK → Prop
def liftM (P : Program) (w : World) (K : PySem.W.Frag) (r : DRM) : V → List V → Hp → VK → Prop := fun v vs H Q => ∃ d ds M Qd, LinkM P w K H M ∧ Rep K H d v ∧ Reps K H ds vs ∧ r d ds M Qd ∧ DownV P w K M H Qd Q
def DMt (X : Cx) (id : String) (r : DRM) : Prop := MtR X id (liftM X.prog X.w X.K r)
theorem mtR_imp {X : Cx} {id : String} {r r' : V → List V → Hp → VK → Prop} (h : MtR X id r) (i : ∀ v vs H Q, r' v vs H Q → r v vs H Q) : MtR X id r' := fun pins s σ H x xs v us Q I r1 r2 q => h pins s σ H x xs v us Q I r1 r2 (i _ _ _ _ q)
/-- the value is of that built-in type, by the small heap -/
def isTy (T : String) (x : D) (M : MH) : Prop := match x with
  | .str _ => T = "str"
  | .rol _ => T = "list"
  | .ref a => match M a with
    | some (.lst _) => T = "list"
    | some (.dct _) => T = "dict"
    | some (.dcn _) => T = "dict"
    | _ => False
  | _ => False
def dBM (T : String) (r : DRM) (to : DTE) (t : DTA) : DTE := fun τ M E Q => to τ M E fun x M1 => isTy T x M1 ∧ t τ M1 E fun ds M2 => r x ds M2 Q
section
variable {X : Cx} {W : WX} {x : Str} {p pos apos cpos : Pos} {o e : Expr} {es : List Expr} {to : DTE} {t : DTA} {id T : String} {r : DRC} {rm : DRM} {name : Str}
theorem lift_cb {P : Program} {w : World} {K : PySem.W.Frag} {σ : L2.St} {H : Hp} {Q : VK} (h : liftE P w K W (dCB r t) σ H Q) : tCB (liftC P w K r) (liftA P w K W t) σ H Q := by
  obtain ⟨τ, M, Ed, Qd, sl, lm, q, dv, dx⟩ := h
  exact ⟨τ, M, Ed, _, sl, lm, q, fun vs H1 ds M1 f l rr q1 => ⟨ds, M1, Qd, l, rr, q1, dv.step f⟩, dx⟩
theorem de_callB (hc : DCall X (.builtin id) r) (hm : X.mg x = none) (hv : bootBuiltins x = some (.builtin id)) (ha : DA X W (e :: es) t) (hg : Gl X x := by rfl) (hn : x ≠ "__name__" := by decide) (hdb : (x == ("__debug__" : Str)) = false := by decide)
    (he : starEach (e :: es) X.env = (false, eval e X.env) :: starEach es X.env := by rfl) (hpl : (backTo pos (starEach es X.env)).any (·.1) = false := by rfl) : DE X W (.Call (.Name x p) (e :: es) [] pos) (dCB r t) :=
  ⟨pe_imp (pe_callB hc hg hm hv ha.pa hn hdb he hpl) fun σ H Q h => lift_cb h⟩
theorem de_callTy (hc : DCall X (.type T) r) (hm : X.mg x = none) (hv : bootBuiltins x = some (.type T)) (ha : DA X W (e :: es) t) (hg : Gl X x := by rfl) (hn : x ≠ "__name__" := by decide) (hdb : (x == ("__debug__" : Str)) = false := by decide)
    (he : starEach (e :: es) X.env = (false, eval e X.env) :: starEach es X.env := by rfl) (hpl : (backTo pos (starEach es X.env)).any (·.1) = false := by rfl) : DE X W (.Call (.Name x p) (e :: es) [] pos) (dCB r t) :=
  ⟨pe_imp (pe_callTy hc hg hm hv ha.pa hn hdb he hpl) fun σ H Q h => lift_cb h⟩
theorem isTy_is {pins : List (Addr × Obj)} {σ : L2.St} {H : Hp} {s : Shared} {M : MH} {d : D} {v : V} {u : Value} (I : Inv X pins σ H s) (lm : LinkM X.prog X.w X.K H M) (rd : Rep X.K H d v) (ru : RelV v u) (h : isTy T d M) :
    s.TypeIs u T ∧ ∀ a, u = .ref a → ∃ ob, s.heap.get? a = some ob ∧ ob.dict = none := by
  cases d with
  | str z =>
    rw [Rep] at rd
    subst rd
    exact tyV_is I ru (show tyV X.K T (.str z) H from h)
  | rol ds =>
    rw [Rep] at rd
    obtain ⟨a, vs, rfl, s1, _⟩ := rd
    exact tyV_is I ru (show tyV X.K T (.ref a) H from .inl ⟨h, vs, s1.sq⟩)
  | ref a =>
    rw [Rep] at rd
    subst rd
    simp only [isTy] at h
    split at h
    · rename_i ds hm
      obtain ⟨vs, hv, _⟩ := lm a _ hm
      exact tyV_is I ru (show tyV X.K T (.ref a) H from .inl ⟨h, vs, .inl (.inl hv)⟩)
    · rename_i ds hm
      obtain ⟨vs, hv, _⟩ := lm a _ hm
      exact tyV_is I ru (show tyV X.K T (.ref a) H from .inr (.inr (.inl ⟨h, .inl ⟨vs, hv⟩⟩)))
    · rename_i ds hm
      obtain ⟨xs, _, ⟨o, _, _, ho, hx, _⟩, _⟩ := dcn_of I lm hm
      cases ru
      subst h
      exact ⟨⟨o, ho, hx.1⟩, fun a e => by cases e; exact ⟨o, ho, hx.2.1⟩⟩
    · exact h.elim
  | _ => exact h.elim
theorem de_bm0 (pa : PlainAttrs T) (slot : Slot T name id) (hty : typeOf (.builtin id) = pure (.type "method_descriptor")) (hm : DMt X id rm) (ho : DE X W o to)
    (hbase : attributeBase o name X.env (eval o X.env) = eval o X.env := by rfl) (hline : (apos.endLine == cpos.line) = true := by rfl) : DE X W (.Call (.Attribute o name apos) [] [] cpos) (dBM T rm to dNil) := by
  refine ⟨⟨fun pins s σ H Q I ⟨τ, M, Ed, Qd, sl, lm, q, dv, dx⟩ => ?_⟩⟩
  refine wpAny_Call_method0_late hbase hline (thn (ho.pe.run pins s σ H (fun x H1 => ∃ d M1, Fr M H M1 H1 ∧ LinkM X.prog X.w X.K H1 M1 ∧ Rep X.K H1 d x ∧ isTy T d M1 ∧ rm d [] M1 Qd) I ⟨τ, M, Ed, _, sl, lm, q, fun v H1 d M1 f l r q1 => ⟨d, M1, f, l, r, q1.1, q1.2⟩, dx⟩) fun v s1 ⟨x, H1, I1, r1, d, M1, f1, l1, rd, ty, q1⟩ => ?_)
  obtain ⟨h1, h2⟩ := isTy_is I1 l1 rd r1 ty
  exact ⟨T, id, pa, slot, hty, h1, h2, Calls.callWith_builtin rfl (PySem.evalArgs_none (hm pins s1 σ H1 x [] v [] Q I1 r1 .nil ⟨d, [], M1, Qd, l1, rd, rfl, q1, dv.step f1⟩))⟩
theorem de_bm (pa : PlainAttrs T) (slot : Slot T name id) (hty : typeOf (.builtin id) = pure (.type "method_descriptor")) (hm : DMt X id rm) (ho : DE X W o to) (ha : DA X W (e :: es) t)
    (hbase : attributeBase o name X.env (eval o X.env) = eval o X.env := by rfl)
    (hfew : ((backTo cpos (starEach (e :: es) X.env)).all (fun x => !x.1) && (backToKw cpos (keywordEach [] X.env)).all (fun x => x.1.isSome)
      && decide ((e :: es).length + ([] : List Keyword).length + (if ([] : List Keyword).isEmpty then 0 else 1) < 30)) = true := by rfl)
    (hline : (apos.endLine == cpos.line) = true := by rfl) (hs : starEach (e :: es) X.env = (false, eval e X.env) :: starEach es X.env := by rfl) (hplain : (backTo cpos (starEach es X.env)).any (·.1) = false := by rfl) :
    DE X W (.Call (.Attribute o name apos) (e :: es) [] cpos) (dBM T rm to t) := by
  refine ⟨⟨fun pins s σ H Q I ⟨τ, M, Ed, Qd, sl, lm, q, dv, dx⟩ => ?_⟩⟩
  refine wpAny_Call_method_late hbase hfew hline rfl (thn (ho.pe.run pins s σ H (fun x H1 => ∃ d M1, Fr M H M1 H1 ∧ LinkM X.prog X.w X.K H1 M1 ∧ Rep X.K H1 d x ∧ isTy T d M1 ∧ t τ M1 Ed fun ds M2 => rm d ds M2 Qd) I ⟨τ, M, Ed, _, sl, lm, q, fun v H1 d M1 f l r q1 => ⟨d, M1, f, l, r, q1.1, q1.2⟩, dx⟩) fun v s1 ⟨x, H1, I1, r1, d, M1, f1, l1, rd, ty, q1⟩ => ?_)
  obtain ⟨h1, h2⟩ := isTy_is I1 l1 rd r1 ty
  refine ⟨T, id, pa, slot, hty, h1, h2, ?_⟩
  have hA := ha.pa.run cpos pins s1 σ H1 (fun vs H2 => ∃ ds M2, Fr M1 H1 M2 H2 ∧ LinkM X.prog X.w X.K H2 M2 ∧ Reps X.K H2 ds vs ∧ rm d ds M2 Qd) I1 ⟨τ, M1, Ed, _, (f1.imm lm).slots sl, l1, q1, fun vs H2 ds M2 f l r q2 => ⟨ds, M2, f, l, r, q2⟩, dx.step f1⟩
  rw [hs] at hA ⊢
  refine Calls.callWith_builtin (by show (false || (backTo cpos (starEach es X.env)).any (·.1)) = false; rw [hplain] <;> rfl) (Calls.evalArgs_plain ?_)
  exact thn hA fun us s2 ⟨vs, H2, I2, r2, ds, M2, f2, l2, rds, q2⟩ => hm pins s2 σ H2 x vs v us Q I2 r1 r2 ⟨d, ds, M2, Qd, l2, (f2.imm l1).rep _ _ rd, rds, q2, dv.step (f1.trans f2)⟩
end

/-! ### what the layer's defs promise -/
abbrev DXK := Value → MH → Prop
abbrev DSp := List D → MH → DXK → DVK → Prop
def liftSp (P : Program) (w : World) (K : PySem.W.Frag) (sp : DSp) : Sp := fun vs H Q E => ∃ ds M Ed Qd, LinkM P w K H M ∧ Reps K H ds vs ∧ sp ds M Ed Qd ∧ DownV P w K M H Qd Q ∧
  ∀ c od H' M', Fr M H M' H' → LinkM P w K H' M' → Ed c M' → E c od H'
def DFn (P : Program) (w : World) (K : PySem.W.Frag) (mg : Str → Option Value) (base : Heap) (k : Nat) (f : Addr) (fd : FuncData) (ps : List Str) (sp : DSp) : Prop :=
  FnOk P w K mg base (L2.CX P w) k f fd ps (liftSp P w K sp)
def dCall (sp : DSp) (t : DTA) : DTE := fun τ M E Q => t τ M E fun ds M1 => sp ds M1 (fun c M2 => E c τ M2) Q
section
variable {X : Cx} {W : WX} {k : Nat} {f : Addr} {fd : FuncData} {ps : List Str} {sp : DSp} {x : Str} {p pos : Pos} {e : Expr} {es : List Expr} {t : DTA}
theorem de_call (F : DFn X.prog X.w X.K X.mg X.base k f fd ps sp) (hr : Room k X.A) (hm : X.mg x = some (.ref f)) (hk : PySem.W.keepIn X.K (.ref f) = true) (hb : Binds X.K fd ps []) (tk : Takes X W)
    (ha : DA X W (e :: es) t) (hg : Gl X x := by rfl) (hdb : (x == ("__debug__" : Str)) = false := by decide) (he : starEach (e :: es) X.env = (false, eval e X.env) :: starEach es X.env := by rfl) (hpl : (backTo pos (starEach es X.env)).any (·.1) = false := by rfl) :
    DE X W (.Call (.Name x p) (e :: es) [] pos) (dCall sp t) :=
  ⟨pe_imp (pe_callSD F hr hg hm hk hb .nil (E := fun σ cls d H => W cls d σ H) (fun σ pins H s e s' I c => tk e s' (XE.of_call I (fun _ _ _ h => h) c)) ha.pa hdb he hpl) fun σ H Q ⟨τ, M, Ed, Qd, sl, lm, q, dv, dx⟩ =>
    ⟨τ, M, Ed, _, sl, lm, q, fun vs H1 ds M1 f1 l1 r1 q1 => by
      show liftSp X.prog X.w X.K sp (vs ++ []) H1 Q _
      rw [List.append_nil]
      exact ⟨ds, M1, _, Qd, l1, r1, q1, dv.step f1, fun c od H2 M2 f2 l2 e2 => dx c od σ H2 τ M2 (f1.trans f2) (((f1.trans f2).imm lm).slots sl) l2 e2⟩, dx⟩⟩
end
def dStart (N : List Str) (ds : List D) : DSt := ds.map some ++ List.replicate (N.length - ds.length) none
theorem Slots.start {K : PySem.W.Frag} {H : Hp} {N : List Str} {ds : List D} {vs : List V} (r : Reps K H ds vs) : Slots K H (L2.start N vs) (dStart N ds) := by
  have hl := r.length
  refine ⟨by unfold dStart L2.start; simp [hl], fun i d h => ?_⟩
  unfold dStart at h
  have hi : i < ds.length := by
    by_cases hi : i < ds.length
    · exact hi
    · rw [List.getElem?_append_right (by simpa using hi), List.getElem?_replicate] at h
      split at h <;> cases h
  rw [List.getElem?_append_left (by simpa using hi), List.getElem?_map] at h
  cases e : ds[i]? with
  | none => rw [e] at h; cases h
  | some d' =>
    rw [e] at h
    cases h
    obtain ⟨v, hv, rv⟩ := Reps.get r e
    refine ⟨v, ?_, rv⟩
    unfold L2.start
    rw [List.getElem?_append_left (by simp [hl, hi]), List.getElem?_map, hv]
    rfl
/-- a def's body's context -/
abbrev bx (P : Program) (w : World) (K : PySem.W.Frag) (mg : Str → Option Value) (base : Heap) (N : List Str) (qual : Str) (st : Stmt) (f : Addr) (cdv : Value) (A : Around) (outer : List Env) (s : Shared) (H : Hp) (E : XK) : Cx :=
  cxOf (L2.CX P w) P w K mg base N qual (defScope st) f cdv A outer s H E
abbrev bw (E : XK) : WX := fun cls d _ H => E cls d H
abbrev dEnds (Q : DVK) (E : DXK) : DEnds := { nx := fun _ M' => ∃ M0, MLe M0 M' ∧ Q .non M0, rt := fun d M' => ∃ M0, MLe M0 M' ∧ Q d M0, xx := fun c _ M' => ∃ M0, MLe M0 M' ∧ E c M0 }
/-- THE RULE for a def: by its body's reading. M: what the caller's small heap tells; behind the body less may be told -/
theorem DFn.mk {P : Program} {w : World} {K : PySem.W.Frag} {mg : Str → Option Value} {base : Heap} {x qual : Str} {st : Stmt} {f : Addr} {fd : FuncData} {N ps : List Str} {k : Nat} {sp : DSp} (F : Fun K x qual st f fd) (S : FnScope N ps (defScope st))
    (len : ∀ ds M E Q, sp ds M E Q → ds.length = ps.length)
    (hbody : ∀ (cdv : Value) (A : Around) (outer : List Env) (s : Shared) (H : Hp) (E : XK), Room k (bx P w K mg base N qual st f cdv A outer s H E).A → Takes (bx P w K mg base N qual st f cdv A outer s H E) (bw E) →
      ∃ t, DSs (bx P w K mg base N qual st f cdv A outer s H E) (bw E) (defBody st) t ∧ ∀ ds M E Q, sp ds M E Q → t (dEnds Q E) (dStart N ds) M) :
    DFn P w K mg base (k + 1) f fd ps sp := by
  refine F.okX S (fun vs H Q E h => ?_) (fun cdv A outer s H vs Q E hr h => ?_)
  · obtain ⟨ds, M, Ed, Qd, _, r, q, _⟩ := h
    rw [r.length]
    exact len _ _ _ _ q
  · obtain ⟨ds, M, Ed, Qd, lm, r, q, dv, dx⟩ := h
    obtain ⟨t, ht, hq⟩ := hbody cdv A outer s H E hr (takes_of rfl rfl rfl rfl)
    refine ⟨_, ht.ps, dStart N ds, M, _, Slots.start r, lm, hq ds M Ed Qd q, ⟨fun σ' H' τ' M' f s' l' ⟨M0, m0, q'⟩ => dv .non H' .non M0 (f.less m0) (l'.less m0) rfl q', fun v H' d M' f l r' ⟨M0, m0, q'⟩ => dv v H' d M0 (f.less m0) (l.less m0) r' q',
      fun _ _ _ _ _ _ _ z => z.elim, fun _ _ _ _ _ _ _ z => z.elim, fun c od σ' H' τ' M' f s' l' ⟨M0, m0, q'⟩ => dx c od H' M0 (f.less m0) (l'.less m0) q'⟩⟩
/-- a def of the top, where it stands -/
structure FunAt (K : PySem.W.Frag) (mg : Str → Option Value) (x : Str) (st : Stmt) : Prop where
  ex : ∃ f fd, mg x = some (.ref f) ∧ Fun K x x st f fd
/-- a def that keeps its promise -/
structure Callee (P : Program) (w : World) (K : PySem.W.Frag) (mg : Str → Option Value) (base : Heap) (x : Str) (k : Nat) (ps : List Str) (sp : DSp) : Prop where
  ex : ∃ f fd, mg x = some (.ref f) ∧ PySem.W.keepIn K (.ref f) = true ∧ Binds K fd ps [] ∧ DFn P w K mg base k f fd ps sp
theorem Callee.mk' {P : Program} {w : World} {K : PySem.W.Frag} {mg : Str → Option Value} {base : Heap} {x : Str} {st : Stmt} {N ps : List Str} {k : Nat} {sp : DSp} (F : FunAt K mg x st) (S : FnScope N ps (defScope st))
    (len : ∀ ds M E Q, sp ds M E Q → ds.length = ps.length)
    (hb : ∀ (kV doc pm : Value) (an : Option Addr) (cdv ct : Value) (us : List Value), us.length = ps.length → bindArgs (PySem.W.fnOf x x (defArgs st) (defBody st) (defScope st) .none kV doc pm an cdv ct) ⟨us, []⟩ = pure (ps.zip us))
    (hbody : ∀ (f : Addr) (cdv : Value) (A : Around) (outer : List Env) (s : Shared) (H : Hp) (E : XK), Room k (bx P w K mg base N x st f cdv A outer s H E).A → Takes (bx P w K mg base N x st f cdv A outer s H E) (bw E) →
      ∃ t, DSs (bx P w K mg base N x st f cdv A outer s H E) (bw E) (defBody st) t ∧ ∀ ds M E Q, sp ds M E Q → t (dEnds Q E) (dStart N ds) M) :
    Callee P w K mg base x (k + 1) ps sp := by
  obtain ⟨f, fd, hm, F⟩ := F.ex
  exact ⟨f, fd, hm, F.kp, F.binds hb, DFn.mk F S len (hbody f)⟩
theorem de_callC {X : Cx} {W : WX} {j k : Nat} {ps : List Str} {sp : DSp} {x : Str} {p pos : Pos} {e : Expr} {es : List Expr} {t : DTA} (C : Callee X.prog X.w X.K X.mg X.base x k ps sp) (hr : Room j X.A) (tk : Takes X W)
    (ha : DA X W (e :: es) t) (hk : k ≤ j := by decide) (hg : Gl X x := by rfl) (hdb : (x == ("__debug__" : Str)) = false := by decide) (he : starEach (e :: es) X.env = (false, eval e X.env) :: starEach es X.env := by rfl) (hpl : (backTo pos (starEach es X.env)).any (·.1) = false := by rfl) :
    DE X W (.Call (.Name x p) (e :: es) [] pos) (dCall sp t) := by
  obtain ⟨f, fd, hm, hkp, hb, F⟩ := C.ex
  exact de_call F (hr.mono hk) hm hkp hb tk ha hg hdb he hpl
end DL
namespace DL
open PySem PySem.Spec PyProof.Rows L2
/-! ### small expressions -/
section
variable {X : Cx} {W : WX} {a : Expr} {ta : DTE} {pos : Pos}
def dNeg (ta : DTE) : DTE := fun τ M E Q => ta τ M E fun x M1 => match x with
  | .int i => Q (.int (-i)) M1
  | _ => False
theorem de_neg (ha : DE X W a ta) : DE X W (.UnaryOp .USub a pos) (dNeg ta) :=
  ⟨pe_imp (pe_un un_neg ha.pe) fun σ H Q ⟨τ, M, Ed, Qd, sl, lm, q, dv, dx⟩ => ⟨τ, M, Ed, _, sl, lm, q, fun v H1 d M1 f l r q1 => by
    cases d with
    | int i => exact ⟨i, r, dv _ H1 (.int (-i)) M1 f l rfl q1⟩
    | _ => exact q1.elim, dx⟩⟩
/-- what a name of the module holds -/
structure GlobV (K : PySem.W.Frag) (mg : Str → Option Value) (x : Str) (d : D) : Prop where
  ex : ∃ (v : V) (u : Value), mg x = some u ∧ RelV v u ∧ ∀ H, Rep K H d v
theorem de_globC {x : Str} {d : D} (g : GlobV X.K X.mg x d) (hg : Gl X x := by rfl) (hd : (x == ("__debug__" : Str)) = false := by decide) : DE X W (.Name x pos) (dC d) := by
  obtain ⟨v, u, hm, r, rr⟩ := g.ex
  exact de_glob hg hm r rr hd
/-- a built-in type as a value -/
theorem de_bty {x : Str} {n : String} (hm : X.mg x = none) (hv : bootBuiltins x = some (.type n)) (hg : Gl X x := by rfl) (hn : x ≠ "__name__" := by decide) (hd : (x == ("__debug__" : Str)) = false := by decide) : DE X W (.Name x pos) (dC (.ty n)) :=
  de_c (v := .ty n) (pe_bltn hg hm hv rfl hn hd) fun _ => rfl
/-! new dicts -/
def dNewS : DTE := fun _ M _ Q => ∀ p, M p = none → Q (.ref p) (mup M p (.dct []))
def dNewN : DTE := fun _ M _ Q => ∀ p, M p = none → Q (.ref p) (mup M p (.dcn []))
theorem de_dictS : DE X W (.Dict [] [] pos) dNewS := ⟨pe_imp pe_dnewK fun σ H Q ⟨τ, M, Ed, Qd, sl, lm, q, dv, dx⟩ p hp => by
  obtain ⟨l2, f2⟩ := lm.new (o := .dct []) (u := .dK []) hp ⟨[], upd_same, .nil⟩
  exact dv _ _ (.ref p) _ f2 l2 rfl (q p (lm.fresh hp))⟩
theorem de_dictN : DE X W (.Dict [] [] pos) dNewN := by
  refine ⟨⟨fun pins s σ H Q I ⟨τ, M, Ed, Qd, sl, lm, q, dv, dx⟩ => ?_⟩⟩
  have hp : H s.heap.objs.size = none := I.hok.fresh (Nat.le_refl _)
  have hS : (s.heap.objs.size == sysModules) = false := beq_eq_false_iff_ne.mpr (Nat.ne_of_gt I.big)
  obtain ⟨o, es, ep, ho, he, hd, hes, _, _⟩ := Heap.DictOfH.new (knd := nestedKind X.prog X.w) s.heap
  obtain ⟨l2, f2⟩ := lm.new (o := .dcn []) (u := NDict X.prog X.w [] s.heap.objs.size) hp ⟨[], upd_same, hS, Nat.zero_le _, List.nodup_nil, .nil⟩
  refine wpAny_Dict_empty ⟨.ref s.heap.objs.size, _, I.laid (a := s.heap.objs.size) (o := NDict X.prog X.w [] s.heap.objs.size) (t' := s.toks) (fun _ _ q => Heap.get?_push_of_some _ q) (Nat.le_refl _) ?_, rfl, dv _ _ (.ref s.heap.objs.size) _ f2 l2 rfl (q _ (lm.fresh hp))⟩
  exact ⟨⟨o, es, ep, ho, he, hd, hes⟩, ⟨o, ho⟩, fun h1 h2 ⟨o', es', ep', e1, e2, e3, e4⟩ k => ⟨o', es', ep', k o' e1, e2, e3, e4⟩⟩
end

/-! ### built-in functions -/
section
variable {X : Cx}
def lenR : DRC := fun ds M Q => match ds with
  | [.str z] => z.length ≤ sizeLine ∧ Q (.int z.length) M
  | [.tup xs] => Q (.int xs.length) M
  | [.rol xs] => Q (.int xs.length) M
  | [.ref a] => match M a with
    | some (.lst xs) => Q (.int xs.length) M
    | _ => False
  | _ => False
theorem reps1 {K : PySem.W.Frag} {H : Hp} {d : D} {vs : List V} (r : Reps K H [d] vs) : ∃ v, vs = [v] ∧ Rep K H d v := by
  simp only [Reps] at r
  obtain ⟨v, r, rfl, r1, rfl⟩ := r
  exact ⟨v, rfl, r1⟩
theorem reps2 {K : PySem.W.Frag} {H : Hp} {d e : D} {vs : List V} (r : Reps K H [d, e] vs) : ∃ v u, vs = [v, u] ∧ Rep K H d v ∧ Rep K H e u := by
  simp only [Reps] at r
  obtain ⟨v, r, rfl, r1, u, r', rfl, r2, rfl⟩ := r
  exact ⟨v, u, rfl, r1, r2⟩
theorem do_len : DCall X (.builtin "len") lenR := callR_imp call_len fun vs H Q ⟨ds, M, Qd, lm, r, q, dv⟩ => by
  rcases ds with _ | ⟨d, _ | ⟨e, ds⟩⟩
  · exact q.elim
  · obtain ⟨v, rfl, rv⟩ := reps1 r
    cases d with
    | str z =>
      rw [Rep] at rv
      subst rv
      exact ⟨_, z.length, rfl, ⟨q.1, rfl⟩, dv _ H (.int _) M (Fr.refl _ _) lm rfl q.2⟩
    | tup xs =>
      rw [Rep] at rv
      obtain ⟨a, us, rfl, s1, rs⟩ := rv
      exact ⟨_, us.length, rfl, .inr ⟨us, s1, rfl⟩, dv _ H (.int _) M (Fr.refl _ _) lm (by rw [rs.length]; rfl) q⟩
    | rol xs =>
      rw [Rep] at rv
      obtain ⟨a, us, rfl, s1, rs⟩ := rv
      exact ⟨_, us.length, rfl, .inl ⟨us, s1.sq, rfl⟩, dv _ H (.int _) M (Fr.refl _ _) lm (by rw [rs.length]; rfl) q⟩
    | ref a =>
      rw [Rep] at rv
      subst rv
      simp only [lenR] at q
      split at q
      · rename_i xs hm
        obtain ⟨us, hv, rs⟩ := lm a _ hm
        exact ⟨_, us.length, rfl, .inl ⟨us, .inl (.inl hv), rfl⟩, dv _ H (.int _) M (Fr.refl _ _) lm (by rw [rs.length]; rfl) q⟩
      · exact q.elim
    | _ => exact q.elim
  · cases d <;> exact q.elim
/-- the items of one argument that is a tuple or a list -/
def seq1 (ds : List D) (M : MH) (k : List D → Prop) : Prop := match ds with
  | [.tup xs] => k xs
  | [.rol xs] => k xs
  | [.ref a] => match M a with
    | some (.lst xs) => k xs
    | _ => False
  | _ => False
theorem seq1_of {P : Program} {w : World} {K : PySem.W.Frag} {H : Hp} {M : MH} {ds : List D} {vs : List V} {k : List D → Prop} (lm : LinkM P w K H M) (r : Reps K H ds vs) (h : seq1 ds M k) :
    ∃ a us xs, vs = [.ref a] ∧ (SqL K H a us ∨ SqT K H a us) ∧ Reps K H xs us ∧ k xs ∧ (ds = [.tup xs] ∧ SqT K H a us ∨ SqL K H a us) := by
  rcases ds with _ | ⟨d, _ | ⟨e, ds⟩⟩
  · exact h.elim
  · obtain ⟨v, rfl, rv⟩ := reps1 r
    cases d with
    | tup xs =>
      rw [Rep] at rv
      obtain ⟨a, us, rfl, s1, rs⟩ := rv
      exact ⟨a, us, xs, rfl, .inr s1, rs, h, .inl ⟨rfl, s1⟩⟩
    | rol xs =>
      rw [Rep] at rv
      obtain ⟨a, us, rfl, s1, rs⟩ := rv
      exact ⟨a, us, xs, rfl, .inl s1.sq, rs, h, .inr s1.sq⟩
    | ref a =>
      rw [Rep] at rv
      subst rv
      simp only [seq1] at h
      split at h
      · rename_i xs hm
        obtain ⟨us, hv, rs⟩ := lm a _ hm
        exact ⟨a, us, xs, rfl, .inl (.inl (.inl hv)), rs, h, .inr (.inl (.inl hv))⟩
      · exact h.elim
    | _ => exact h.elim
  · cases d <;> exact h.elim
def tupleR : DRC := fun ds M Q => seq1 ds M fun xs => Q (.tup xs) M
theorem do_tuple : DCall X (.type "tuple") tupleR := callR_imp call_tuple_of fun vs H Q ⟨ds, M, Qd, lm, r, q, dv⟩ => by
  obtain ⟨a, us, xs, rfl, _, rs, q, hh⟩ := seq1_of lm r q
  refine ⟨a, us, rfl, ?_⟩
  rcases hh with ⟨rfl, s1⟩ | s1
  · exact .inr ⟨s1, dv _ H (.tup xs) M (Fr.refl _ _) lm ⟨a, us, rfl, s1, rs⟩ q⟩
  · exact .inl ⟨s1, fun l hl => new_tup lm dv rs q hl⟩
def listR : DRC := fun ds M Q => seq1 ds M fun xs => ∀ p, M p = none → Q (.ref p) (mup M p (.lst xs))
theorem do_list : DCall X (.type "list") listR := callR_imp call_list_of fun vs H Q ⟨ds, M, Qd, lm, r, q, dv⟩ => by
  obtain ⟨a, us, xs, rfl, s1, rs, q, _⟩ := seq1_of lm r q
  exact ⟨a, us, rfl, s1, fun l hl => new_lst lm dv rs q hl⟩
def intcR : DRC := fun ds M Q => match ds with
  | [.int i] => Q (.int i) M
  | [.bl k] => Q (.int (if k = true then 1 else 0)) M
  | _ => False
theorem do_intc : DCall X (.type "int") intcR := callR_imp call_int1 fun vs H Q ⟨ds, M, Qd, lm, r, q, dv⟩ => by
  rcases ds with _ | ⟨d, _ | ⟨e, ds⟩⟩
  · exact q.elim
  · obtain ⟨v, rfl, rv⟩ := reps1 r
    cases d with
    | int i => rw [Rep] at rv; subst rv; exact .inl ⟨i, rfl, dv _ H (.int i) M (Fr.refl _ _) lm rfl q⟩
    | bl k => rw [Rep] at rv; subst rv; exact .inr ⟨k, rfl, dv _ H (.int _) M (Fr.refl _ _) lm rfl q⟩
    | _ => exact q.elim
  · cases d <;> exact q.elim
/-- the truths of a list of truths -/
def blsOf : List D → Option (List Bool)
  | [] => some []
  | .bl b :: r => (blsOf r).map (b :: ·)
  | _ :: _ => none
theorem bls_reps {K : PySem.W.Frag} {H : Hp} : ∀ {xs : List D} {us : List V} {bs : List Bool}, Reps K H xs us → blsOf xs = some bs → us = bs.map V.bl
  | [], _, _, r, h => by rw [Reps] at r; subst r; cases h; rfl
  | d :: r, _, _, rr, h => by
    rw [Reps] at rr
    obtain ⟨v, us, rfl, r1, r2⟩ := rr
    cases d with
    | bl b =>
      simp only [blsOf, Option.map_eq_some_iff] at h
      obtain ⟨bs, h1, rfl⟩ := h
      rw [Rep] at r1
      subst r1
      rw [bls_reps r2 h1]
      rfl
    | _ => simp [blsOf] at h
def allR : DRC := fun ds M Q => match ds with
  | [.ref a] => match M a with
    | some (.lst xs) => match blsOf xs with
      | some bs => Q (.bl (bs.all id)) M
      | none => False
    | _ => False
  | _ => False
def anyR : DRC := fun ds M Q => match ds with
  | [.ref a] => match M a with
    | some (.lst xs) => match blsOf xs with
      | some bs => Q (.bl (bs.any id)) M
      | none => False
    | _ => False
  | _ => False
theorem do_all (hc : X.calm = true) : DCall X (.builtin "all") allR := callR_imp (cr_all hc) fun vs H Q ⟨ds, M, Qd, lm, r, q, dv⟩ => by
  rcases ds with _ | ⟨d, _ | ⟨e, ds⟩⟩
  · exact q.elim
  · obtain ⟨v, rfl, rv⟩ := reps1 r
    cases d with
    | ref a =>
      rw [Rep] at rv
      subst rv
      simp only [allR] at q
      split at q
      · rename_i xs hm
        split at q
        · rename_i bs hb
          obtain ⟨us, hv, rs⟩ := lm a _ hm
          have e := bls_reps rs hb
          subst e
          exact ⟨a, bs, rfl, .inl (.inl hv), dv _ H (.bl _) M (Fr.refl _ _) lm rfl q⟩
        · exact q.elim
      · exact q.elim
    | _ => exact q.elim
  · cases d <;> exact q.elim
theorem do_any (hc : X.calm = true) : DCall X (.builtin "any") anyR := callR_imp (cr_any hc) fun vs H Q ⟨ds, M, Qd, lm, r, q, dv⟩ => by
  rcases ds with _ | ⟨d, _ | ⟨e, ds⟩⟩
  · exact q.elim
  · obtain ⟨v, rfl, rv⟩ := reps1 r
    cases d with
    | ref a =>
      rw [Rep] at rv
      subst rv
      simp only [anyR] at q
      split at q
      · rename_i xs hm
        split at q
        · rename_i bs hb
          obtain ⟨us, hv, rs⟩ := lm a _ hm
          have e := bls_reps rs hb
          subst e
          exact ⟨a, bs, rfl, .inl (.inl hv), dv _ H (.bl _) M (Fr.refl _ _) lm rfl q⟩
        · exact q.elim
      · exact q.elim
    | _ => exact q.elim
  · cases d <;> exact q.elim
/-- max, min of two ints -/
def max2R : DRC := fun ds M Q => match ds with
  | [.int i, .int j] => Q (.int (max i j)) M
  | _ => False
def min2R : DRC := fun ds M Q => match ds with
  | [.int i, .int j] => Q (.int (min i j)) M
  | _ => False
theorem do_max2 (hc : X.calm = true) : DCall X (.builtin "max") max2R := callR_imp (call_max2 hc) fun vs H Q ⟨ds, M, Qd, lm, r, q, dv⟩ => by
  match ds, q, r with
  | [.int i, .int j], q, r =>
    obtain ⟨v, u, rfl, r1, r2⟩ := reps2 r
    refine ⟨i, j, by rw [Rep] at r1 r2; rw [r1, r2], dv _ H (.int (max i j)) M (Fr.refl _ _) lm ?_ q⟩
    show V.int _ = V.int _
    congr 1
    by_cases h : j > i
    · rw [if_pos h]; omega
    · rw [if_neg h]; omega
theorem do_min2 (hc : X.calm = true) : DCall X (.builtin "min") min2R := callR_imp (call_min2 hc) fun vs H Q ⟨ds, M, Qd, lm, r, q, dv⟩ => by
  match ds, q, r with
  | [.int i, .int j], q, r =>
    obtain ⟨v, u, rfl, r1, r2⟩ := reps2 r
    refine ⟨i, j, by rw [Rep] at r1 r2; rw [r1, r2], dv _ H (.int (min i j)) M (Fr.refl _ _) lm ?_ q⟩
    show V.int _ = V.int _
    congr 1
    by_cases h : j < i
    · rw [if_pos h]; omega
    · rw [if_neg h]; omega
/-! isinstance -/
def tyName (d : D) (M : MH) : Option String := match d with
  | .non => some "NoneType"
  | .bl _ => some "bool"
  | .int _ => some "int"
  | .str _ => some "str"
  | .tup _ => some "tuple"
  | .rol _ => some "list"
  | .ref a => match M a with
    | some (.lst _) => some "list"
    | some (.dct _) => some "dict"
    | _ => none
  | _ => none
theorem tyX_of {P : Program} {w : World} {K : PySem.W.Frag} {H : Hp} {M : MH} {d : D} {v : V} {n : String} (lm : LinkM P w K H M) (r : Rep K H d v) (h : tyName d M = some n) : TyX K H v (.type n) := by
  cases d with
  | non => rw [Rep] at r; subst r; cases h; exact .base .non
  | bl b => rw [Rep] at r; subst r; cases h; exact .base (.bl b)
  | int i => rw [Rep] at r; subst r; cases h; exact .base (.int i)
  | str x => rw [Rep] at r; subst r; cases h; exact .base (.str x)
  | tup xs =>
    rw [Rep] at r
    obtain ⟨a, us, rfl, s1, rs⟩ := r
    cases h
    rcases s1 with (e | ⟨o, e⟩) | ⟨o, its, n, e, c, _⟩
    · exact .base (.tup e)
    · exact .fTuple e
    · exact .kTuple e c
  | rol xs =>
    rw [Rep] at r
    obtain ⟨a, us, rfl, s1, rs⟩ := r
    cases h
    rcases s1 with ⟨o, e⟩ | ⟨o, its, n, e, c, _⟩
    · exact .base (.frz e)
    · exact .kList e c
  | ref a =>
    rw [Rep] at r
    subst r
    simp only [tyName] at h
    split at h
    · rename_i xs hm
      cases h
      obtain ⟨us, hv, _⟩ := lm a _ hm
      exact .base (.lst hv)
    · rename_i xs hm
      cases h
      obtain ⟨us, hv, _⟩ := lm a _ hm
      exact .base (.dK hv)
    · cases h
  | ty n => cases h
def isSub (t c : String) : Bool := t == c || (t == "bool" && c == "int")
def isiR : DRC := fun ds M Q => match ds with
  | [x, .ty c] => match tyName x M with
    | some t => (c = "int" ∨ c = "str" ∨ c = "bool" ∨ c = "tuple" ∨ c = "list") ∧ Q (.bl (isSub t c)) M
    | none => False
  | _ => False
theorem tyName_in {d : D} {M : MH} {n : String} (h : tyName d M = some n) : n ∈ ["NoneType", "bool", "int", "str", "tuple", "list", "dict"] := by
  cases d with
  | ref a =>
    simp only [tyName] at h
    split at h <;> first | (cases h; simp; done) | cases h
  | ty _ => cases h
  | _ => cases h; simp
theorem do_isinst : DCall X (.builtin "isinstance") isiR := callR_imp call_isi fun vs H Q ⟨ds, M, Qd, lm, r, q, dv⟩ => by
  rcases ds with _ | ⟨d, _ | ⟨e, _ | ⟨e2, ds⟩⟩⟩
  · exact q.elim
  · exact q.elim
  · obtain ⟨v, u, rfl, r1, r2⟩ := reps2 r
    cases e with
    | ty c =>
      simp only [isiR] at q
      split at q
      · rename_i t ht
        obtain ⟨hc, q⟩ := q
        rw [Rep] at r2
        subst r2
        refine ⟨v, .ty c, .type t, .type c, isSub t c, rfl, .ty c, tyX_of lm r1 ht, ?_, dv _ H (.bl _) M (Fr.refl _ _) lm rfl q⟩
        have hin := tyName_in ht
        simp only [List.mem_cons, List.mem_nil_iff, or_false] at hin
        rcases hc with rfl | rfl | rfl | rfl | rfl <;> rcases hin with rfl | rfl | rfl | rfl | rfl | rfl | rfl <;> exact kit_ty (by decide +kernel)
      · exact q.elim
    | _ => exact q.elim
  · cases e <;> exact q.elim
end

/-! ### methods of lists -/
section
variable {X : Cx}
def appendR : DRM := fun x ds M Q => match x with
  | .ref a => match ds with
    | [d] => match M a with
      | some (.lst xs) => xs.length < sizeLine ∧ Q .non (mup M a (.lst (xs ++ [d])))
      | _ => False
    | _ => False
  | _ => False
theorem dm_append : DMt X "list.append" appendR := mtR_imp (r := rAppend) mt_append fun v vs H Q ⟨d, ds, M, Qd, lm, rd, rs, q, dv⟩ => by
  cases d with
  | ref a =>
    rcases ds with _ | ⟨d, _ | ⟨e, ds⟩⟩
    · exact q.elim
    · obtain ⟨u, rfl, ru⟩ := reps1 rs
      rw [Rep] at rd
      subst rd
      simp only [appendR] at q
      split at q
      · rename_i xs hm
        obtain ⟨us, hv, rxs⟩ := lm a _ hm
        obtain ⟨l2, f2⟩ := lm.put (u := .lst (us ++ [u])) (o := .lst (xs ++ [d])) hm ⟨_, upd_same, (lm.immPut hm).reps _ _ (rxs.append (.one ru))⟩
        exact ⟨a, us, u, rfl, rfl, hv, by rw [rxs.length]; exact q.1, dv _ _ .non _ f2 l2 rfl q.2⟩
      · exact q.elim
    · exact q.elim
  | _ => exact q.elim
end
end DL
namespace DL
open PySem PySem.Spec PyProof.Rows L2
/-! ### sorted of a list or a tuple -/
def SqAt (h : Heap) (l : Addr) (vs : List Value) : Prop := ∃ (T : String) (o : Obj) (n : Nat), (T = "list" ∨ T = "tuple") ∧ h.get? l = some o ∧ o.cls = .type T ∧ o.data = .seq vs.toArray n
section
variable {prog : Program} {w : World} {A : Around} {E : Value → Shared → Prop} {s : Shared}
theorem collect_seq {l : Addr} {vs : List Value} {Q : List Value → Shared → Prop} (hl : SqAt s.heap l vs)
    (h : Q vs { s with heap := (s.heap.push (seqObj "list" #[] 0)).update s.heap.objs.size (Obj.mapSeq (· ++ vs.toArray)) }) (hsz : vs.length ≤ sizeLine) :
    wpAny (model prog w) A (collect (.ref l)) Q E s := by
  obtain ⟨T, o, n, hT, ho, hc, hd⟩ := hl
  unfold collect
  refine wpAny_bind (wpAny_runValue (codeAny_builtin entry_proto_collect' ?_))
  show wpAny _ _ (do again (.builtin "list.__iadd__" ⟨[← newList [], .ref l], []⟩)) _ _ s
  refine wpAny_bind (wpAny_newList (wpAny_pure ⟨Code.quiet_builtin _ (by decide +kernel), codeAny_builtin entry_list_iadd' ?_⟩))
  show wpAny _ _ (Builtin.List.listExtendWith (.ref s.heap.objs.size) (.ref l) (.ref s.heap.objs.size)) _ _ { s with heap := s.heap.push (seqObj "list" #[] 0) }
  unfold Builtin.List.listExtendWith
  have ho' : (s.heap.push (seqObj "list" #[] 0)).get? l = some o := Heap.get?_push_of_some _ ho
  refine wpAny_bind (wpAny_typeOf (T := T) ⟨o, ho', hc⟩ ?_)
  have ht : (Value.type T == Value.type "list" || Value.type T == Value.type "tuple") = true := by
    rcases hT with rfl | rfl <;> rfl
  rw [if_pos (by rw [Bool.or_assoc, ht]; simp)]
  refine wpAny_bind (listItems_at ho' hd ?_)
  refine wpAny_bind (listItems_at (xs := #[]) (n := 0) (Heap.get?_push_size _ rfl) rfl ?_)
  rw [if_neg (by simp)]
  refine wpAny_bind (listUpdate_at (xs := #[]) (n := 0) (Heap.get?_push_size _ rfl) rfl ?_ (Nat.zero_le _) (by show (#[] ++ vs.toArray).size ≤ sizeLine + 1; simp only [Array.size_append, List.size_toArray, List.length_nil]; omega))
  refine wpAny_pure ?_
  show wpAny (model prog w) A (do
      let o ← load s.heap.objs.size
      match o.data with
      | .seq xs _ => pure xs.toList
      | _ => unsupported "internal:collect") Q E { s with heap := (s.heap.push (seqObj "list" #[] 0)).update s.heap.objs.size (Obj.mapSeq (· ++ vs.toArray)) }
  refine wpAny_bind (wpAny_load (get?_update_seq (Heap.get?_push_size _ rfl) _) ?_)
  show wpAny _ _ (pure ((#[] : Array Value) ++ vs.toArray).toList) Q E _
  rw [show ((#[] : Array Value) ++ vs.toArray).toList = vs by simp]
  exact wpAny_pure h
open PySem.W in
theorem sorted_of_sortS {l : Addr} {vs : List Value} {kw : List (Str × Value)} {Q : Value → Shared → Prop} (hl : SqAt s.heap l vs) (hL : vs.length ≤ sizeLine) (ha1 : argsOk "sorted" ⟨[.ref l], kw⟩) (ha2 : ∀ x, argsOk "list.sort" ⟨[.ref x], kw⟩)
    (body : ∀ E' : Value → Shared → Prop, wpAny (model prog w) A.in1.in1 (Builtin.«list.sort» ⟨[.ref (s.heap.objs.size + 1)], kw⟩) (fun f s' => f = .done (.ret .none) ∧ Q (.ref (s.heap.objs.size + 1)) s') E' { s with heap := copyHeap s.heap vs }) :
    wpAny (model prog w) A (call (.builtin "sorted") [.ref l] kw) Q E s := by
  refine call_function_entry_kw kind_sorted plain_sorted entry_sorted ha1 ?_
  unfold Builtin.«sorted»
  refine wpAny_bind (m := checkCount "sorted" 1 1 _) (wpAny_pure ?_)
  refine wpAny_bind (collect_seq hl ?_ hL)
  refine wpAny_bind (wpAny_newList ?_ hL)
  have hsz : ((s.heap.push (seqObj "list" #[] 0)).update s.heap.objs.size (Obj.mapSeq (· ++ vs.toArray))).objs.size = s.heap.objs.size + 1 := by
    rw [Heap.size_update, size_push']
  show wpAny _ _ _ _ _ { s with heap := copyHeap s.heap vs }
  rw [hsz]
  refine wpAny_bind (wpAny_holding (wpAny_call_entry_kw slot_list_sort ⟨_, copyHeap_at s.heap vs, rfl⟩ entry_list_sort ?body (ha2 _)))
  case body =>
    show wpAny (model prog w) A.in1.in1 (Builtin.«list.sort» ⟨[.ref (s.heap.objs.size + 1)], kw⟩) _ _ _
    refine wpAny_mono (body _) (fun f s' hf => ?_) fun _ _ e => e
    obtain ⟨rfl, hq⟩ := hf
    exact ⟨_, rfl, wpAny_pure ⟨_, rfl, hq⟩⟩
variable {β : Type} {vs : List Value} {bs : List β} {enc : β → PyData} {R : Value → β → Prop}
open PySem.W in
theorem sorted_dataS {l : Addr} {Q : Value → Shared → Prop} (hl : SqAt s.heap l vs) (e : EachIs R vs bs) (er : EachIs (fun v b => ∃ as, Reads s.heap v (enc b) as) vs bs) (hal : AllAlike (bs.map enc)) (hk : Sortable (bs.map enc)) (hL : bs.length ≤ sizeLine)
    (hu : ∀ b, b ∈ bs → A.units + 2 + (enc b).depth < cLine) (h : ∀ out, out.length = bs.length → EachIs R out (bs.mergeSort (dataLe false enc)) → Q (.ref (s.heap.objs.size + 1)) { s with heap := sortedAll s.heap vs (List.toArray out) }) :
    wpAny (model prog w) A (call (.builtin "sorted") [.ref l]) Q E s := by
  have er' : EachIs (fun v b => ∃ as, Reads (sortingHeap (copyHeap s.heap vs) (s.heap.objs.size + 1) vs) v (enc b) as) vs bs := er.mono fun _ _ ⟨as, r⟩ => ⟨as, PyProof.Rows.Reads.keeps (fun _ _ => sorting_copy_old) r⟩
  refine sorted_of_sortS hl (by rw [e.length]; exact hL) (args_sorted1 _) (fun _ => args_list_sort _) fun _ => list_sort_vals (s := { s with heap := copyHeap s.heap vs }) (copyHeap_at s.heap vs)
    (SortsAt.data (s := { s with heap := sortingHeap (copyHeap s.heap vs) (s.heap.objs.size + 1) vs }) (each_map (R := fun v d => ∃ as, Reads (sortingHeap (copyHeap s.heap vs) (s.heap.objs.size + 1) vs) v d as) enc er') hal hk (bound_map hu)) (by rw [e.length]; exact hL)
    ⟨rfl, h _ (by rw [sortVals_length false rfl]; exact e.length) (sortVals_data false e er' hal)⟩
open PySem.W in
theorem sorted_key_dataS {l : Addr} {f : Value} {kw : List (Str × Value)} {b : Bool} {Q : Value → Shared → Prop} (k : β → PyData) (hl : SqAt s.heap l vs) (e : EachIs R vs bs) (hal : AllAlike (bs.map k)) (hk : Sortable (bs.map k)) (hL : bs.length ≤ sizeLine)
    (hu : ∀ x, x ∈ bs → A.units + 2 + (k x).depth < cLine) (ha1 : argsOk "sorted" ⟨[.ref l], kw⟩) (ha2 : ∀ x, argsOk "list.sort" ⟨[.ref x], kw⟩) (ht : ∀ x, Builtin.«list.sort» ⟨[.ref x], kw⟩ = ksk_tree x f b)
    (turn : ∀ (v : Value) (x : β), R v x → x ∈ bs → ∀ (h : Heap) (tk : Nat), (∀ b o, s.heap.get? b = some o → h.get? b = some o) →
      wpAny (model prog w) A.in1.in1 (call f [v]) (KeyPure (k x) { s with heap := h, toks := tk }) (fun _ _ => False) { s with heap := h, toks := tk })
    (h : ∀ out c h' tk, (∀ b o, s.heap.get? b = some o → h'.get? b = some o) → s.heap.get? (s.heap.objs.size + 1) = none → h'.get? (s.heap.objs.size + 1) = some (seqObj "list" (List.toArray out) c) → out.length = bs.length → EachIs R out (bs.mergeSort (dataLe b k)) →
      Q (.ref (s.heap.objs.size + 1)) { s with heap := h', toks := tk }) :
    wpAny (model prog w) A (call (.builtin "sorted") [.ref l] kw) Q E s := by
  have fresh : s.heap.get? (s.heap.objs.size + 1) = none := Heap.get?_none_of_le (Nat.le_succ _)
  have up : ∀ {g : Heap}, KeepsBut (s.heap.objs.size + 1) (copyHeap s.heap vs) g → ∀ b o, s.heap.get? b = some o → g.get? b = some o := fun {g} kp b o q =>
    kp b o (Nat.ne_of_lt (Nat.lt_succ_of_lt (Heap.lt_size q))) (copyHeap_old q)
  refine sorted_of_sortS hl (by rw [e.length]; exact hL) ha1 ha2 fun E' => ?_
  rw [ht]
  refine keyH_tree (kz := bs.map k) (s := { s with heap := copyHeap s.heap vs }) (copyHeap_at s.heap vs) (by rw [List.length_map]; exact e.length.symm) (by rw [e.length]; exact hL) hal hk (bound_map (A := A.in1.in1) hu)
    (keyH_turns (s := { s with heap := copyHeap s.heap vs }) e fun v x hR hx h tk kp => turn v x hR hx h tk (up kp)) fun h' tk out c kp hD ko => ⟨rfl, ?_⟩
  exact h out c h' tk (up kp) fresh hD ((ko.length (by rw [List.length_map]; exact e.length.symm)).trans e.length) (keyedOut_each k ko e)
end
/-- a value that stands for a datum -/
def StF (K : PySem.W.Frag) (H : Hp) (u : Value) (d : D) : Prop := ∃ v, RelV v u ∧ Rep K H d v
theorem each_of {K : PySem.W.Frag} {H : Hp} : ∀ {ds : List D} {vs : List V} {us : List Value}, Vals vs us → Reps K H ds vs → PySem.W.EachIs (StF K H) us ds
  | [], _, _, r, rs => by rw [Reps] at rs; subst rs; cases r; exact .nil
  | d :: ds, _, _, r, rs => by
    rw [Reps] at rs
    obtain ⟨v, rr, rfl, r1, r2⟩ := rs
    cases r with
    | cons h t => exact .cons ⟨v, h, r1⟩ (each_of t r2)
theorem of_each {K : PySem.W.Frag} {H : Hp} : ∀ {ds : List D} {us : List Value}, PySem.W.EachIs (StF K H) us ds → ∃ vs, Vals vs us ∧ Reps K H ds vs
  | _, _, .nil => ⟨[], .nil, rfl⟩
  | _, _, .cons ⟨v, h, r⟩ t => by
    obtain ⟨vs, h1, h2⟩ := of_each t
    exact ⟨v :: vs, .cons h h1, v, vs, rfl, r, h2⟩
def sortD (ds : List D) : List D := ds.mergeSort (PySem.W.dataLe false pyT)
def sortC (ds : List D) : Prop := okDs 50 ds = true ∧ ds.length ≤ sizeLine ∧ PySem.W.AllAlike (ds.map pyT) ∧ PySem.W.Sortable (ds.map pyT)
def sortedR : DRC := fun ds M Q => seq1 ds M fun xs => sortC xs ∧ ∀ p, M p = none → Q (.ref p) (mup M p (.lst (sortD xs)))
section
variable {X : Cx} {W : WX}
theorem seq_at {pins : List (Addr × Obj)} {σ : L2.St} {H : Hp} {s : Shared} {a : Addr} {us : List V} (I : Inv X pins σ H s) (h : SqL X.K H a us ∨ SqT X.K H a us) : ∃ its, Vals us its ∧ SqAt s.heap a its ∧ us.length ≤ sizeLine := by
  rcases h with h | h
  · obtain ⟨its, rv, ⟨o, n, ho, hc, _, hd⟩, hz⟩ := I.list h
    exact ⟨its, rv, ⟨"list", o, _, .inl rfl, ho, hc, hd⟩, hz⟩
  · obtain ⟨its, rv, ⟨o, ho, hc, n, hd⟩, hz⟩ := I.tuple h
    exact ⟨its, rv, ⟨"tuple", o, _, .inr rfl, ho, hc, hd⟩, hz⟩
theorem do_sorted (hu : X.A.units + 64 < cLine) : DCall X (.builtin "sorted") sortedR := fun pins s σ H xs us Q I rx ⟨ds, M, Qd, lm, r, q, dv⟩ => by
  obtain ⟨a, vs, items, rfl, hs, rs, ⟨⟨h1, h2, h3, h4⟩, q⟩, _⟩ := seq1_of lm r q
  obtain rfl := Vals.ref1 rx
  obtain ⟨its, rv, hl, hz⟩ := seq_at I hs
  have ok : ∀ d ∈ items, okD 50 d = true := (okDs_iff 50 items).mp h1
  have e := each_of rv rs
  have er : PySem.W.EachIs (fun v b => ∃ as, Reads s.heap v (pyT b) as) its items := (PySem.W.each_mem e).mono fun u d ⟨⟨v, h, r⟩, hd⟩ => Dp.reads I _ v u (rep_dp d v 50 (ok d hd) r) h
  refine sorted_dataS hl e er h3 h4 h2 (fun b hb => ?_) fun out ho eo => ?_
  · have := (okD_lay b 50 (ok b hb)).2
    omega
  · obtain ⟨vs', rv', rs'⟩ := of_each eo
    obtain ⟨ep, he'⟩ := sortedAll_at s.heap its out.toArray
    refine ⟨.ref _, upd H (s.heap.objs.size + 1) (.lst vs'), I.laid (t' := s.toks) (fun _ _ => sortedAll_old) (Nat.le_succ _) ⟨?_, out, ep, rv', he'⟩, rfl, new_lst lm dv rs' q (I.hok.fresh (Nat.le_succ _))⟩
    rw [rv'.length, ho]
    exact h2
end
end DL
namespace DL
open PySem PySem.Spec PyProof.Rows L2
/-! ### sorted(t, key=lambda one: (one[int(word == 'z')], one)), t a tuple of pairs of ints, word captured -/
def cellD (p : Int × Int) : D := .tup [.int p.1, .int p.2]
def kOf (b : Bool) (p : Int × Int) : PyData := .tuple [.int (if b = true then p.2 else p.1), .tuple [.int p.1, .int p.2]]
def kLe (b : Bool) : Int × Int → Int × Int → Bool := PySem.W.dataLe false (kOf b)
section
variable {prog : Program} {w : World} {A : Around} {s : Shared}
theorem lam_turn {f c c' a : Addr} {qual one word z : Str} {params : Arguments} {p1 p2 p3 p4 p5 p6 p7 p8 p9 : Pos} {j kt : Nat} {scope : Scope} {cl : List (Str × Addr)} {pm ctv : Value} {wt t1 t2 : Tok} {wd : Str} {mg mb : Str → Option Value} {i1 i2 : Int}
    (hroom : A.depth < recursionLimit)
    (ho : s.heap.get? f = some (PySem.W.kla_obj "<lambda>" qual params (.Tuple [.Subscript (.Name one p1) (.Call (.Name ("int" : Str) p2) [.Compare (.Name word p3) [.Eq] [.Constant (.str z) j p4] p5] [] p6) p7, .Name one p8] kt p9) scope cl pm c' ctv))
    (hcode : s.heap.CodeRec (.ref c') qual) (lim : s.heap.NoLimit) (hcell : s.heap.IsCell c (some (.str wd wt))) (hcl : cl.lookup word = some c)
    (G : s.heap.Ns mainGlobals mg) (hmi : mg "int" = none) (B : s.heap.Ns builtinsNs mb) (hbi : mb "int" = some (.type "int")) (hv : IsTup s.heap a #[.int i1 t1, .int i2 t2])
    (hbind : bindArgs (PySem.W.kla_fn "<lambda>" qual params (.Tuple [.Subscript (.Name one p1) (.Call (.Name ("int" : Str) p2) [.Compare (.Name word p3) [.Eq] [.Constant (.str z) j p4] p5] [] p6) p7, .Name one p8] kt p9) scope cl pm (.ref c') ctv) ⟨[.ref a], []⟩ = pure [(one, .ref a)])
    (hk : scope.kind = .function) (hco : scope.isCoroutine = false) (hgen : scope.isGenerator = false) (hnc : ∀ y ∈ scope.names, y.2 ≠ .cell)
    (l1 : scope.names.lookup one = some .local) (l2 : scope.names.lookup word = some .free) (l3 : scope.names.lookup ("int" : Str) = some .globalImplicit)
    (d1 : (one == ("__debug__" : Str)) = false) (d2 : (word == ("__debug__" : Str)) = false) (d3 : (word == ("__classdict__" : Str)) = false) :
    wpAny (model prog w) A (call (.ref f) [.ref a]) (PySem.W.KeyPure (kOf (decide (wd = z)) (i1, i2)) s) (fun _ _ => False) s := by
  refine wpAny_call (PySem.W.kla_callFunE hroom ho rfl hco hgen rfl hcode ?_)
  rw [hbind]
  refine wpAny_pure (wpAny_newFunctionEnv hnc (fun y hy => ?_) (fun h₁ hns hsb => ⟨lim.fresh _ hsb, ?_⟩) hk)
  · rw [List.mem_singleton.mp hy]; exact l1
  have kp : ∀ b o, s.heap.get? b = some o → h₁.get? b = some o := fun b o e => hsb.extBut b o (Nat.ne_of_lt (Heap.lt_size e)) (Heap.get?_push_of_some _ e)
  have hv1 : IsTup h₁ a #[.int i1 t1, .int i2 t2] := by
    obtain ⟨o, ho, hc, n, hd⟩ := hv
    exact ⟨o, kp _ _ ho, hc, n, hd⟩
  obtain ⟨oc, hoc, hdc⟩ := hcell
  show codeAny _ _ (.expr _ (PySem.W.envX qual scope s.heap.objs.size f (.ref c') cl)) _ _
  refine PySem.W.kla_codeExpr ?_
  have kn1 : (PySem.W.envX qual scope s.heap.objs.size f (.ref c') cl).kindOf one = some .local := l1
  have kn2 : (PySem.W.envX qual scope s.heap.objs.size f (.ref c') cl).kindOf word = some .free := l2
  refine wpAny_Tuple_spliced ?_
  refine Calls.spliced_cons (Subscript_ ?_)
  refine wpAny_Name (wpAny_loadName_local hk kn1 hns (v := .ref a) (by simp) ?_) d1
  refine wpAny_Call_Name_kw (Calls.Name_function_global hk l3 (Calls.loadGlobal_builtin (G.keeps kp) hmi (B.keeps kp) hbi ?_) (by decide))
  refine PyProof.Rows.callWith_type1 ?_ (by rfl) (by rfl)
  refine Calls.spliced_cons (wpAny_Compare1 ?_ (by first | exact nobehind _ (by decide) (by decide) | rfl))
  refine wpAny_Name (wpAny_loadName_free hk kn2 hcl ⟨oc, kp _ _ hoc, hdc⟩ ?_ d3) d2
  refine Calls.Constant_str (eq_str ?_)
  refine Calls.spliced_nil ?_
  refine call_int_bool ?_
  have pl : IsTup h₁ a #[.int i1 t1, .int i2 t2] := hv1
  refine subscriptTail_builtinR (x := .int (if decide (wd = z) = true then i2 else i1) (if decide (wd = z) = true then t2 else t1)) pl.typeIs slot_tuple_getitem.lookup
    (getItem_tuple (j := if decide (wd = z) = true then 1 else 0) pl ?_ ?_ ?_ ?_ ⟨rfl, ?_⟩) (by rfl)
  · split <;> decide
  · split <;> decide
  · by_cases e : wd = z <;> simp [e] <;> rfl
  · by_cases e : wd = z <;> simp [e]
  refine Calls.spliced_cons (wpAny_Name (wpAny_loadName_local hk kn1 hns (v := .ref a) (by simp) ?_) d1)
  refine Calls.spliced_nil ⟨by show 2 ≤ sizeLine; decide, ?_⟩
  obtain ⟨o, ho2, hc2, n, hd2⟩ := hv1
  refine ⟨_, _, rfl, fun b o e => Heap.get?_push_of_some _ (kp b o e), ?_⟩
  refine .tuple (Heap.get?_push_size _ rfl) rfl rfl (.cons (as := []) (bs := []) ?_ (.cons (as := []) (bs := []) (.tuple (Heap.get?_push_of_some _ ho2) hc2 hd2 (.cons (as := []) (bs := []) (.int _ _) (.cons (as := []) (bs := []) (.int _ _) .nil))) .nil))
  exact .int _ _
end
end DL
namespace DL
open PySem PySem.Spec PyProof.Rows L2
section
variable {X : Cx} {pins : List (Addr × Obj)} {σ : L2.St} {H : Hp} {s : Shared}
/-- the lambda is made: what else stands, stands -/
theorem lam_make3 {c P : Addr} {params : Arguments} {body : Expr} {scope : Scope} {pos : Pos} {E : Value → Shared → Prop} {Q : Value → Shared → Prop} (I : Inv X pins σ H s) (TB : LamX.TabB X.base X.mg c P) (hcode : X.env.code = .ref c)
    (hT : LamX.TabS H P (X.env.qual ++ "<lambda>")) (hdef : defaultsOf params X.env = ([], [])) (hfree : ∀ y ∈ scope.names, y.2 = .free → ∃ c, X.env.cells.lookup y.1 = some c)
    (h : ∀ (f c' : Addr) (pm ctv : Value) (H1 : Hp) (s' : Shared), Inv X pins σ H1 s' → (∀ b o, b ≠ P → H b = some o → H1 b = some o) → LamX.TabS H1 P (X.env.qual ++ "<lambda>") →
      s'.heap.get? f = some (PySem.W.kla_obj "<lambda>" (X.env.qual ++ "<lambda>") params body scope (cloFrom X.env.cells scope.names []) pm c' ctv) → H1 f = none → H1 c' = some (LamX.CodeO c' (X.env.qual ++ "<lambda>")) → Q (.ref f) s') :
    wpAny (model X.prog X.w) X.A (eval (.Lambda params body scope pos) X.env) Q E s := by
  obtain ⟨ps, hP, ht, ha⟩ := hT
  refine PySem.W.kla_eval hdef ?_
  have bP : s.heap.BuiltinsAt X.mg P := TB.bm.keeps I.bk
  have hP' : s.heap.get? P = some { cls := .none, data := .fields ps } := I.hok P _ hP
  cases hc : codeAmong pos ps.toList with
  | none =>
    refine PySem.W.kla_makeFunction (mg := X.mg) (c := c) (P := P) (ps := ps) (closure_ok hfree) I.ok.glob (I.mod.glob.keeps I.bk) hcode (TB.code.keeps I.bk) hP' ht hc TB.gP bP fun c' ctv h' tk hx hge hlt hrec htb => ?_
    obtain ⟨c2, oc, vs, t, e2, hoc, hd, hv⟩ := hrec
    cases e2
    have hsz : s.heap.objs.size ≤ h'.objs.size := Nat.le_trans hge (Nat.le_of_lt hlt)
    have nC : H c' = none := I.hok.fresh hge
    have I1 := LamX.inv_table (t' := tk) (more := #[rawInt pos.line, rawInt pos.col, .ref c']) (h' := h'.push (PySem.W.kla_obj "<lambda>" (X.env.qual ++ "<lambda>") params body scope (cloFrom X.env.cells scope.names []) ((X.mg "__name__").getD .none) c' ctv)) I hP
      (fun b o hb e => Heap.get?_push_of_some _ (hx b o hb e)) (Heap.get?_push_of_some _ htb) hge ⟨oc, vs, t, Heap.get?_push_of_some _ hoc, hd, hv⟩
    have hE : ∀ b o, b ≠ P → H b = some o → (upd (upd H P (.tbl (ps ++ #[rawInt pos.line, rawInt pos.col, .ref c']))) c' (LamX.CodeO c' (X.env.qual ++ "<lambda>"))) b = some o := fun b o n e => by
      rw [upd_ne (ne_of_none e nC), upd_ne n]
      exact e
    have eL : (ps ++ #[rawInt pos.line, rawInt pos.col, .ref c']).toList = ps.toList ++ [rawInt pos.line, rawInt pos.col, .ref c'] := by simp
    refine h h'.objs.size c' ((X.mg "__name__").getD .none) ctv _ _ I1 hE ?_ (Heap.get?_push_size _ rfl) ?_ upd_same
    · refine ⟨_, by rw [upd_ne (ne_of_none hP nC), upd_same], by rw [eL]; exact PySem.TriplesOk_snoc _ _ _ _ ht, fun p' cv hcv => ?_⟩
      rw [eL] at hcv
      rcases LamX.among_app _ ht hcv with z | z
      · obtain ⟨c0, e1, e2⟩ := ha p' cv z
        refine ⟨c0, e1, hE _ _ (fun q => ?_) e2⟩
        rw [q, hP] at e2
        exact LamX.codeO_ne ps (Option.some.inj e2).symm
      · exact ⟨c', z, upd_same⟩
    · have n1 : h'.objs.size ≠ c' := Nat.ne_of_gt hlt
      have n2 : h'.objs.size ≠ P := Nat.ne_of_gt (Nat.lt_of_lt_of_le (Heap.lt_size hP') hsz)
      rw [upd_ne n1, upd_ne n2]
      exact I.hok.fresh hsz
  | some cv =>
    obtain ⟨c', e, hco⟩ := ha pos cv hc
    subst e
    refine PySem.W.kla_makeFunctionHit (mg := X.mg) (c := c) (P := P) (ps := ps) (closure_ok hfree) I.ok.glob (I.mod.glob.keeps I.bk) hcode (TB.code.keeps I.bk) hP' ht hc bP fun ctv h' tk hx hsz => ?_
    have I1 : Inv X pins σ H { s with heap := h'.push (PySem.W.kla_obj "<lambda>" (X.env.qual ++ "<lambda>") params body scope (cloFrom X.env.cells scope.names []) ((X.mg "__name__").getD .none) c' ctv), toks := tk } := I.kept fun b o e => Heap.get?_push_of_some _ (hx b o e)
    exact h h'.objs.size c' ((X.mg "__name__").getD .none) ctv H _ I1 (fun _ _ _ e => e) ⟨ps, hP, ht, ha⟩ (Heap.get?_push_size _ rfl) (I.hok.fresh hsz) hco
end
theorem RepO.some {P : Program} {w : World} {K : PySem.W.Frag} {H : Hp} {a : Addr} {o : MO} (r : RepO P w K H a o) : ∃ u, H a = some u := by
  cases o with
  | lst ds => obtain ⟨vs, e, _⟩ := r; exact ⟨_, e⟩
  | dct kvs => obtain ⟨vs, e, _⟩ := r; exact ⟨_, e⟩
  | dcn kvs => obtain ⟨vs, e, _⟩ := r; exact ⟨_, e⟩
  | ins C fs => obtain ⟨dx, fs', e, _⟩ := r; exact ⟨_, e⟩
  | tab q => obtain ⟨ps, e, _⟩ := r; exact ⟨_, e⟩
/-- a table has grown -/
theorem LinkM.tabbed {P : Program} {w : World} {K : PySem.W.Frag} {H H1 : Hp} {M : MH} {p : Addr} {q : Str} (lm : LinkM P w K H M) (hp : M p = some (.tab q)) (k : ∀ b o, b ≠ p → H b = some o → H1 b = some o) (t : LamX.TabS H1 p q) : LinkM P w K H1 M ∧ Fr M H M H1 := by
  obtain ⟨ps, hP, _⟩ := lm p _ hp
  have i : Imm H H1 := ⟨fun a vs h => k a _ (fun z => by rw [z, hP] at h; cases h) h, fun a o u h => k a _ (fun z => by rw [z, hP] at h; cases h) h, fun a c q h => k a _ (fun z => by rw [z, hP] at h; exact LamX.codeO_ne ps (Option.some.inj h).symm) h⟩
  refine ⟨fun a o e => ?_, fun a o e n => k a o (fun z => by rw [z, hp] at n; cases n) e, fun _ _ _ n => n⟩
  by_cases ha : a = p
  · subst ha
    rw [hp] at e
    cases e
    exact t
  · obtain ⟨u, hu⟩ := (lm a o e).some
    exact (lm a o e).stay i ((k a u ha hu).trans hu.symm)
theorem each_mapD {β : Type} {R : Value → D → Prop} {f : β → D} : ∀ {us : List Value} {bs : List β}, PySem.W.EachIs (fun u b => R u (f b)) us bs → PySem.W.EachIs R us (bs.map f)
  | _, _, .nil => .nil
  | _, _, .cons h t => .cons h (each_mapD t)
def dSortLam (i j : Nat) (p : Addr) (q z : Str) : DTE := fun τ M _ Q => ∃ (cs : List (Int × Int)) (wd : Str), τ[i]? = some (some (.tup (cs.map cellD))) ∧ τ[j]? = some (some (.str wd)) ∧ M p = some (.tab q) ∧ cs.length ≤ sizeLine ∧
  ∀ a, M a = none → Q (.ref a) (mup M a (.lst ((cs.mergeSort (kLe (decide (wd = z)))).map cellD)))
section
variable {X : Cx} {W : WX}
theorem de_sortLam {c P : Addr} {k i j : Nat} {q x one word z : Str} {params : Arguments} {p0 px p1 p2 p3 p4 p5 p6 p7 p8 p9 kp lpos pos : Pos} {jj kt : Nat} {scope : Scope}
    (TB : LamX.TabB X.base X.mg c P) (hcode : X.env.code = .ref c) (hq : X.env.qual ++ "<lambda>" = q) (hr : Room k X.A) (hms : X.mg "sorted" = none) (hmi : X.mg "int" = none)
    (hx : X.N[i]? = some x) (hw : X.N[j]? = some word) (vx : Vis X.env.scope x) (hwc : X.env.scope.names.lookup word = some .cell)
    (hdef : defaultsOf params X.env = ([], [])) (hfr : ∀ y ∈ scope.names, y.2 = .free → X.env.scope.names.lookup y.1 = some .cell ∨ X.env.scope.names.lookup y.1 = some .free)
    (hbind : ∀ (q : Str) (cl : List (Str × Addr)) (pm cv ctv v : Value), bindArgs (PySem.W.kla_fn "<lambda>" q params (.Tuple [.Subscript (.Name one p1) (.Call (.Name ("int" : Str) p2) [.Compare (.Name word p3) [.Eq] [.Constant (.str z) jj p4] p5] [] p6) p7, .Name one p8] kt p9) scope cl pm cv ctv) ⟨[v], []⟩ = pure [(one, v)])
    (hk : scope.kind = .function) (hco : scope.isCoroutine = false) (hgen : scope.isGenerator = false) (hnc : ∀ y ∈ scope.names, y.2 ≠ .cell)
    (l1 : scope.names.lookup one = some .local) (l2 : scope.names.lookup word = some .free) (l3 : scope.names.lookup ("int" : Str) = some .globalImplicit)
    (d0 : (x == ("__debug__" : Str)) = false) (d01 : (x == ("__classdict__" : Str)) = false) (d1 : (one == ("__debug__" : Str)) = false) (d2 : (word == ("__debug__" : Str)) = false) (d3 : (word == ("__classdict__" : Str)) = false)
    (hg : Gl X "sorted" := by rfl)
    (he : backTo pos (starEach [.Name x px] X.env) = (false, eval (.Name x px) X.env) :: backTo pos (starEach [] X.env) := by rfl) (hpl : (backTo pos (starEach [.Name x px] X.env)).any (·.1) = false := by rfl)
    (hkw : (backToKw pos (keywordEach [⟨some "key", .Lambda params (.Tuple [.Subscript (.Name one p1) (.Call (.Name ("int" : Str) p2) [.Compare (.Name word p3) [.Eq] [.Constant (.str z) jj p4] p5] [] p6) p7, .Name one p8] kt p9) scope lpos, kp⟩] X.env)).map (·.1) = [some (Str.ofString "key")] := by rfl) :
    DE X W (.Call (.Name "sorted" p0) [.Name x px] [⟨some "key", .Lambda params (.Tuple [.Subscript (.Name one p1) (.Call (.Name ("int" : Str) p2) [.Compare (.Name word p3) [.Eq] [.Constant (.str z) jj p4] p5] [] p6) p7, .Name one p8] kt p9) scope lpos, kp⟩] pos) (dSortLam i j P q z) := by
  subst hq
  refine ⟨⟨fun pins s σ H Q I ⟨τ, M, Ed, Qd, sl, lm, ⟨cs, wd, e1, e2, hP, hz, q⟩, dv, dx⟩ => ?_⟩⟩
  refine wpAny_Call_Name_kw (ld_blt I hg hms (by rfl) ?_ (by decide) (by decide))
  have hall : (backToKw pos (keywordEach [⟨some "key", .Lambda params (.Tuple [.Subscript (.Name one p1) (.Call (.Name ("int" : Str) p2) [.Compare (.Name word p3) [.Eq] [.Constant (.str z) jj p4] p5] [] p6) p7, .Name one p8] kt p9) scope lpos, kp⟩] X.env)) =
      [(some (Str.ofString "key"), (do let v ← eval (.Lambda params (.Tuple [.Subscript (.Name one p1) (.Call (.Name ("int" : Str) p2) [.Compare (.Name word p3) [.Eq] [.Constant (.str z) jj p4] p5] [] p6) p7, .Name one p8] kt p9) scope lpos) X.env; standAt pos; pure v))] := rfl
  refine PyProof.Rows.callWith_kw ?_ he hpl (by rw [hall]; rfl) (by rw [hall]; rfl)
  rw [he, hall]
  obtain ⟨va, ha, ra⟩ := sl.at_ i _ e1
  rw [Rep] at ra
  obtain ⟨a, vs, rfl, sa, rs⟩ := ra
  have hvs : ∃ u, u = Value.ref a := ⟨_, rfl⟩
  refine Calls.spliced_cons (thn ((pe_var (pos := px) hx vx d0 d01).run pins s σ H (fun v H1 => v = .ref a ∧ H1 = H) I ⟨.ref a, ha, rfl, rfl⟩) fun u s1 ⟨v, H1, I1, r1, q1⟩ => ?_)
  obtain ⟨rfl, rfl⟩ := q1
  obtain rfl : u = Value.ref a := r1
  refine Calls.spliced_nil ?_
  show wpAny _ _ (evalAll [(do let v ← eval (.Lambda params (.Tuple [.Subscript (.Name one p1) (.Call (.Name ("int" : Str) p2) [.Compare (.Name word p3) [.Eq] [.Constant (.str z) jj p4] p5] [] p6) p7, .Name one p8] kt p9) scope lpos) X.env; standAt pos; pure v)]) _ _ s1
  have has : ∀ y ∈ scope.names, y.2 = .free → ∃ c, X.env.cells.lookup y.1 = some c := fun y hy e => by
    rcases hfr y hy e with k | k
    · exact I.ok.has _ (.inl k)
    · exact I.ok.has _ (.inr k)
  refine wpAny_evalAll_cons (wpAny_bind (lam_make3 I1 TB hcode (lm P _ hP) hdef has fun f c' pm ctv H2 s2 I2 kk hT2 hf hfn hco2 => wpAny_bind (wpAny_standAt (wpAny_pure ?_))))
  refine wpAny_evalAll_nil ?_
  show wpAny _ _ (call (.builtin "sorted") [.ref a] [(Str.ofString "key", .ref f)]) _ _ s2
  obtain ⟨l2', f2⟩ := lm.tabbed hP kk hT2
  have im := f2.imm lm
  obtain ⟨its, rv, hsq, hlen⟩ := seq_at I2 (.inr (im.sqT sa))
  have rs2 := im.reps _ _ rs
  have e0 := PySem.W.each_of_map (R := StF X.K H2) cellD (each_of rv rs2)
  obtain ⟨vw, hvw, rw'⟩ := (im.slots sl).at_ j _ e2
  rw [Rep] at rw'
  subst rw'
  obtain ⟨m, hn, hl⟩ := I2.loc
  obtain ⟨uw, ruw, look⟩ := hl j word (.str wd) hw hvw (.inr (.inl hwc))
  obtain ⟨wt, rfl⟩ := ruw
  have hcell : ∃ c0, X.env.cells.lookup word = some c0 ∧ s2.heap.IsCell c0 (some (.str wd wt)) := by
    rcases look with ⟨k', _⟩ | ⟨_, c0, h1, h2⟩
    · have k' : X.env.scope.names.lookup word = some .local := k'
      rw [hwc] at k'; cases k'
    · exact ⟨c0, h1, h2⟩
  obtain ⟨c0, hc0, hcl0⟩ := hcell
  have hclo : (cloFrom X.env.cells scope.names []).lookup word = some c0 := by
    have hy : (word, NameKind.free) ∈ scope.names := PySem.mem_of_lookup l2
    obtain ⟨c1, h1⟩ := mem_lookup (cloFrom_has (cells := X.env.cells) (acc := []) hy)
    rcases cloFrom_mem (PySem.mem_of_lookup h1) with hm | ⟨_, h2⟩
    · cases hm
    · rw [h1, h2, hc0] <;> rfl
  obtain ⟨⟨oc, ovs, t, hoc, hdc, hvc⟩, _, _⟩ := I2.hok c' _ hco2
  obtain ⟨mb, hb1, hb2⟩ := I2.mod.blt
  refine sorted_key_dataS (b := false) (kOf (decide (wd = z))) hsq e0 (PySem.W.AllAlike.of fun p q => by simp [kOf, PySem.W.alike, PySem.W.alikeAll]) (PySem.W.Sortable.tuples fun p => ⟨_, _, rfl⟩) hz (fun p _ => ?_) (PyProof.Rows.ksk_s1 _ _) (fun _ => PyProof.Rows.ksk_l1 _ _) (fun _ => PyProof.Rows.ksk_t1 _ _) (fun v p hv hp h tk keep => ?_) fun out cc h' tk keep _ hD ho eo => ?_
  · have hd : (kOf (decide (wd = z)) p).depth = 2 := by simp [kOf, PyData.depth, PyData.depthAll]
    have := hr.un
    omega
  · obtain ⟨vv, rvv, rd⟩ := hv
    unfold cellD at rd
    rw [Rep] at rd
    obtain ⟨b, us, rfl, sb, rb⟩ := rd
    obtain rfl : v = Value.ref b := rvv
    simp only [Reps, Rep] at rb
    obtain ⟨u1, r1, rfl, rfl, u2, r2, rfl, rfl, rfl⟩ := rb
    obtain ⟨jts, rj, hpl, _⟩ := I2.tuple sb
    obtain ⟨w1, w2, rfl, ⟨t1, rfl⟩, ⟨t2, rfl⟩⟩ : ∃ w1 w2, jts = [w1, w2] ∧ RelV (.int p.1) w1 ∧ RelV (.int p.2) w2 := vals2 rj
    have hpl2 : IsTup h b #[.int p.1 t1, .int p.2 t2] := by
      obtain ⟨o, ho, hc, n, hd⟩ := hpl
      exact ⟨o, keep _ _ ho, hc, n, hd⟩
    obtain ⟨ocl, hcl1, hcl2⟩ := hcl0
    exact lam_turn (s := { s2 with heap := h, toks := tk }) (c := c0) (c' := c') (mg := X.mg) (mb := mb) hr.depth (keep _ _ hf) ⟨c', oc, ovs, t, rfl, keep _ _ hoc, hdc, hvc⟩ (I2.nolimit.keeps keep) ⟨ocl, keep _ _ hcl1, hcl2⟩ hclo ((I2.mod.glob.keeps I2.bk).keeps keep) hmi ((hb1.keeps I2.bk).keeps keep) ((hb2 _ (by decide)).trans (by rfl)) hpl2 (hbind _ _ _ _ _ _) hk hco hgen hnc l1 l2 l3 d1 d2 d3
  · obtain ⟨vs', rv', rs'⟩ := of_each (each_mapD (R := StF X.K H2) (f := cellD) eo)
    refine ⟨.ref _, upd H2 (s2.heap.objs.size + 1) (.lst vs'), I2.laid (t' := tk) keep (Nat.le_succ _) ⟨?_, out, cc, rv', hD⟩, rfl, new_lst l2' (dv.step f2) rs' q (I2.hok.fresh (Nat.le_succ _))⟩
    rw [rv'.length, ho]
    exact hz
end
end DL
namespace DL
open PySem PySem.Spec PyProof.Rows L2
/-! ### dict(list of pairs), the keys tuples -/
def pairD (p : D × D) : D := .tup [p.1, p.2]
def fillD (kvs : List (D × D)) (acc : List (D × D)) : List (D × D) := kvs.foldl (fun acc p => putD p.1 p.2 acc) acc
def dictR : DRC := fun ds M Q => match ds with
  | [.ref a] => match M a with
    | some (.lst xs) => ∃ kvs : List (D × D), xs = kvs.map pairD ∧ (∀ p ∈ kvs, keyT p.1 = true) ∧ xs.length ≤ sizeLine ∧ ∀ p, M p = none → Q (.ref p) (mup M p (.dcn (fillD kvs [])))
    | _ => False
  | _ => False
theorem NRep.fill {K : PySem.W.Frag} {H : Hp} {kvs : List (D × D)} {ys : List (NestedKey × Addr × Value)} (r : NRep K H kvs ys) : ∀ {acc : List (D × D)} {xs : List (NestedKey × Addr × Value)}, NRep K H acc xs → NRep K H (fillD kvs acc) (storedAllH xs ys) := by
  induction r with
  | nil => intro acc xs h; exact h
  | cons h t ih =>
    intro acc xs h0
    obtain ⟨h1, h2, h3, v, h4, h5⟩ := h
    exact ih (h0.put h1 h2 h3 h4 h5)
theorem NRep.imm {K : PySem.W.Frag} {H H' : Hp} {kvs : List (D × D)} {ys : List (NestedKey × Addr × Value)} (i : Imm H H') (r : NRep K H kvs ys) : NRep K H' kvs ys := Paired.mapP r fun p q ⟨z1, z2, z3, v, z4, z5⟩ => ⟨z1, z2, i.rep _ _ z3, v, z4, i.rep _ _ z5⟩
section
variable {X : Cx} {pins : List (Addr × Obj)} {σ : L2.St} {H : Hp} {s : Shared}
theorem pairs_laid (I : Inv X pins σ H s) : ∀ {kvs : List (D × D)} {vs : List V} {us : List Value}, Vals vs us → Reps X.K H (kvs.map pairD) vs → (∀ p ∈ kvs, keyT p.1 = true) →
    ∃ L : List (Addr × NestedKey × Addr × Value), us = L.map (fun x => Value.ref x.1) ∧ (∀ x ∈ L, PairAt s.heap x.1 (.ref x.2.2.1) x.2.2.2 ∧ (nestedKind X.prog X.w).is s.heap x.2.1 x.2.2.1) ∧ NRep X.K H kvs (L.map (·.2))
  | [], _, _, rv, rs, _ => by
    rw [List.map_nil, Reps] at rs
    subst rs
    cases rv
    exact ⟨[], rfl, fun x hx => absurd hx (by simp), .nil⟩
  | (k, d) :: kvs, _, _, rv, rs, hk => by
    rw [List.map_cons, Reps] at rs
    obtain ⟨v, rr, rfl, r1, r2⟩ := rs
    cases rv with
    | cons rv1 rv2 =>
      obtain ⟨L, e1, e2, e3⟩ := pairs_laid I rv2 r2 fun p hp => hk p (List.mem_cons_of_mem _ hp)
      unfold pairD at r1
      rw [Rep] at r1
      obtain ⟨t, ws, rfl, st, rb⟩ := r1
      cases rv1
      obtain ⟨w1, w2, rfl, rk, rd⟩ := reps2 rb
      obtain ⟨jts, rj, hpl, _⟩ := I.tuple st
      obtain ⟨u1, u2, rfl, ru1, ru2⟩ := vals2 rj
      obtain ⟨ds, n, ek, hn, hd⟩ := keyT_of (hk _ List.mem_cons_self)
      simp only at ek hn
      subst ek
      have isk := rep_key I _ n w1 u1 hn rk ru1
      have rk2 := rk
      rw [Rep] at rk
      obtain ⟨b, bs, rfl, _, _⟩ := rk
      cases ru1
      refine ⟨(t, n, b, u2) :: L, by rw [e1]; rfl, fun x hx => ?_, .cons ⟨hn, hd, rk2, w2, ru2, rd⟩ e3⟩
      rcases List.mem_cons.mp hx with rfl | hx
      · obtain ⟨o, ho, hc, m, hdd⟩ := hpl
        exact ⟨.inl ⟨o, ho, hc, m, hdd⟩, isk, hd⟩
      · exact e2 x hx
end
section
variable {X : Cx}
theorem do_dict (hc : X.calm = true) (hu : X.A.units + 65 < cLine) : DCall X (.type "dict") dictR := fun pins s σ H vs us Q I rx ⟨ds, M, Qd, lm, r, q, dv⟩ => by
  rcases ds with _ | ⟨d, _ | ⟨e, ds⟩⟩
  · exact q.elim
  · obtain ⟨v, rfl, rv⟩ := reps1 r
    cases d with
    | ref a =>
      rw [Rep] at rv
      subst rv
      obtain rfl := Vals.ref1 rx
      simp only [dictR] at q
      split at q
      · rename_i xs hm
        obtain ⟨kvs, rfl, hk, hz, q⟩ := q
        obtain ⟨ws, hw, rs⟩ := lm a _ hm
        obtain ⟨its, rv, ⟨o, n, ho, hcl, hdn, hd⟩, hz2⟩ := I.list (X := X) (a := a) (.inl (.inl hw))
        obtain ⟨L, e1, e2, e3⟩ := pairs_laid I rv rs hk
        subst e1
        have hlen : L.length = kvs.length := by
          have := Paired.len e3
          rw [List.length_map] at this
          exact this.symm
        have pos : ∀ (j : Nat) (x : Addr × NestedKey × Addr × Value), L[j]? = some x → (fun j => (L[j]?.map (·.1)).getD 0) j = x.1 := fun j x h => by simp only [h, Option.map_some, Option.getD_some]
        have hS : (s.heap.objs.size == sysModules) = false := beq_eq_false_iff_ne.mpr (Nat.ne_of_gt I.big)
        have hp : H s.heap.objs.size = none := I.hok.fresh (Nat.le_refl _)
        have P := PairArg.list (prog := X.prog) (w := X.w) a (L.map (fun x => Value.ref x.1)).toArray (fun j => (L[j]?.map (·.1)).getD 0) (L.map fun x => (Value.ref x.2.2.1, x.2.2.2))
        refine call_dict_pairsH (knd := nestedKind X.prog X.w) (ps := L.map (·.2)) P (I.ok.hd hc) (by show X.A.units + 1 + 1 + 8 < cLine; omega) ⟨⟨o, _, ho, hcl, hdn, hd⟩, ?_, ?_⟩ ⟨?_, ?_⟩ ?_ ?_ ?_
        · rw [List.size_toArray, List.length_map, List.length_map]
        · intro j k v hj
          rw [List.getElem?_map, Option.map_eq_some_iff] at hj
          obtain ⟨x, hx, e⟩ := hj
          cases e
          refine ⟨?_, ?_⟩
          · simp [hx]
          · rw [pos j x hx]
            exact (e2 x (List.mem_of_getElem? hx)).1
        · rw [List.length_map, List.length_map]
        · intro i key v hr
          have hr : (L.map fun x => (Value.ref x.2.2.1, x.2.2.2))[i]? = some (key, v) := hr
          rw [List.getElem?_map, Option.map_eq_some_iff] at hr
          obtain ⟨x, hx, e⟩ := hr
          cases e
          exact ⟨x.2.1, x.2.2.1, by rw [List.getElem?_map, hx]; rfl, rfl⟩
        · intro h' keep y hy
          obtain ⟨x, hx, rfl⟩ := List.mem_map.mp hy
          exact nestedKind_stays.stays (fun b o vs n hb _ => keep b o (Nat.ne_of_lt (Heap.lt_size hb)) (by simp) hb) (e2 x hx).2
        · rw [List.length_map] at hz ⊢
          rw [hlen]
          exact hz
        · intro h' tk hd' keep
          have rn := e3.fill (acc := []) (xs := []) .nil
          obtain ⟨o', es, ep, ho', he', hdd', hes', his', nd'⟩ := hd'
          have hle : (storedAllH [] (L.map (·.2))).length ≤ sizeLine := by
            have := storedAllH_length (L.map (·.2)) []
            rw [List.length_map] at hz
            simp only [List.length_nil, List.length_map] at this
            omega
          have i := immNew (u := NDict X.prog X.w (storedAllH [] (L.map (·.2))) s.heap.objs.size) hp
          obtain ⟨l2, f2⟩ := lm.new (o := .dcn (fillD kvs [])) (u := NDict X.prog X.w (storedAllH [] (L.map (·.2))) s.heap.objs.size) hp
            ⟨_, upd_same, hS, hle, nd', rn.imm i⟩
          refine ⟨.ref s.heap.objs.size, _, I.laid (a := s.heap.objs.size) (o := NDict X.prog X.w (storedAllH [] (L.map (·.2))) s.heap.objs.size) (t' := tk) (fun b o e => keep b o (by simp) e) (Nat.le_refl _) ?_, rfl, dv _ _ (.ref s.heap.objs.size) _ f2 l2 rfl (q _ (lm.fresh hp))⟩
          exact ⟨⟨o', es, ep, ho', he', hdd', hes'⟩, ⟨o', ho'⟩, fun h1 h2 ⟨o'', es', ep', e1, e2, e3, e4⟩ k => ⟨o'', es', ep', k o'' e1, e2, e3, e4⟩⟩
      · exact q.elim
    | _ => exact q.elim
  · cases d <;> exact q.elim
end
end DL
namespace DL
open PySem PySem.Spec PyProof.Rows L2
/-! ### a def whose code object is told; a def that recurs: the bottom -/
structure FunAtC (K : PySem.W.Frag) (mg : Str → Option Value) (x : Str) (st : Stmt) (c : Addr) : Prop where
  ex : ∃ (f : Addr) (oc : Value) (od : Option Addr) (kV doc pm : Value) (an : Option Addr) (ct : Value) (osl : Array (Option Value)), mg x = some (.ref f) ∧
    K.lookup f = some ⟨oc, od, .func (PySem.W.fnOf x x (defArgs st) (defBody st) (defScope st) .none kV doc pm an (.ref c) ct), osl⟩ ∧ PySem.W.codeIn K (.ref c) x = true ∧ PySem.W.keepIn K (.ref f) = true
theorem Callee.mkC {P : Program} {w : World} {K : PySem.W.Frag} {mg : Str → Option Value} {base : Heap} {x : Str} {st : Stmt} {c : Addr} {N ps : List Str} {k : Nat} {sp : DSp} (F : FunAtC K mg x st c) (S : FnScope N ps (defScope st))
    (len : ∀ ds M E Q, sp ds M E Q → ds.length = ps.length)
    (hb : ∀ (kV doc pm : Value) (an : Option Addr) (cdv ct : Value) (us : List Value), us.length = ps.length → bindArgs (PySem.W.fnOf x x (defArgs st) (defBody st) (defScope st) .none kV doc pm an cdv ct) ⟨us, []⟩ = pure (ps.zip us))
    (hbody : ∀ (f : Addr) (A : Around) (outer : List Env) (s : Shared) (H : Hp) (E : XK), Room k (bx P w K mg base N x st f (.ref c) A outer s H E).A → Takes (bx P w K mg base N x st f (.ref c) A outer s H E) (bw E) →
      ∃ t, DSs (bx P w K mg base N x st f (.ref c) A outer s H E) (bw E) (defBody st) t ∧ ∀ ds M E Q, sp ds M E Q → t (dEnds Q E) (dStart N ds) M) :
    Callee P w K mg base x (k + 1) ps sp := by
  obtain ⟨f, oc, od, kV, doc, pm, an, ct, osl, hm, lk, hcd, hkp⟩ := F.ex
  refine ⟨f, _, hm, hkp, (fun_mk lk hcd hkp).binds hb, ?_⟩
  refine fn_of lk hcd S (fun vs H Q E h => ?_) (fun A outer s H vs Q E hr h => ?_)
  · obtain ⟨ds, M, Ed, Qd, _, r, q, _⟩ := h
    rw [r.length]
    exact len _ _ _ _ q
  · obtain ⟨ds, M, Ed, Qd, lm, r, q, dv, dx⟩ := h
    obtain ⟨t, ht, hq⟩ := hbody f A outer s H E hr (takes_of rfl rfl rfl rfl)
    refine ⟨_, ht.ps, dStart N ds, M, _, Slots.start r, lm, hq ds M Ed Qd q, ⟨fun σ' H' τ' M' f s' l' ⟨M0, m0, q'⟩ => dv .non H' .non M0 (f.less m0) (l'.less m0) rfl q', fun v H' d M' f l r' ⟨M0, m0, q'⟩ => dv v H' d M0 (f.less m0) (l.less m0) r' q',
      fun _ _ _ _ _ _ _ z => z.elim, fun _ _ _ _ _ _ _ z => z.elim, fun c od σ' H' τ' M' f s' l' ⟨M0, m0, q'⟩ => dx c od H' M0 (f.less m0) (l'.less m0) q'⟩⟩
/-- nothing is promised -/
theorem Callee.never {P : Program} {w : World} {K : PySem.W.Frag} {mg : Str → Option Value} {base : Heap} {x : Str} {st : Stmt} {N ps : List Str} {k : Nat} (F : FunAt K mg x st) (S : FnScope N ps (defScope st))
    (hb : ∀ (kV doc pm : Value) (an : Option Addr) (cdv ct : Value) (us : List Value), us.length = ps.length → bindArgs (PySem.W.fnOf x x (defArgs st) (defBody st) (defScope st) .none kV doc pm an cdv ct) ⟨us, []⟩ = pure (ps.zip us)) :
    Callee P w K mg base x (k + 1) ps (fun _ _ _ _ => False) :=
  Callee.mk' F S (fun _ _ _ _ h => h.elim) hb fun _ _ _ _ _ _ _ _ _ => ⟨dNever, dss_never, fun _ _ _ _ h => h.elim⟩
/-- a promise that asks more -/
theorem Callee.imp {P : Program} {w : World} {K : PySem.W.Frag} {mg : Str → Option Value} {base : Heap} {x : Str} {ps : List Str} {k : Nat} {sp sp' : DSp} (C : Callee P w K mg base x k ps sp) (h : ∀ ds M E Q, sp' ds M E Q → sp ds M E Q) : Callee P w K mg base x k ps sp' := by
  obtain ⟨f, fd, hm, hk, hb, F⟩ := C.ex
  refine ⟨f, fd, hm, hk, hb, ⟨fun vs H Q E ⟨ds, M, Ed, Qd, lm, r, q, d⟩ => F.len vs H Q E ⟨ds, M, Ed, Qd, lm, r, h _ _ _ _ q, d⟩, fun A outer s H args us vs Q E hr e0 hb r hsp => ?_⟩⟩
  obtain ⟨ds, M, Ed, Qd, lm, r2, q, d⟩ := hsp
  exact F.run A outer s H args us vs Q E hr e0 hb r ⟨ds, M, Ed, Qd, lm, r2, h _ _ _ _ q, d⟩
def frB (sc scope : Scope) : Bool := scope.names.all fun y => !decide (y.2 = .free) || decide (sc.names.lookup y.1 = some .cell) || decide (sc.names.lookup y.1 = some .free)
theorem hfr_by {sc scope : Scope} (h : frB sc scope = true) : ∀ y ∈ scope.names, y.2 = .free → sc.names.lookup y.1 = some .cell ∨ sc.names.lookup y.1 = some .free := fun y hy e => by
  have := List.all_eq_true.mp h y hy
  simp only [Bool.or_eq_true, Bool.not_eq_true', decide_eq_true_eq, decide_eq_false_iff_not] at this
  rcases this with (z | z) | z
  · exact absurd e z
  · exact .inl z
  · exact .inr z
end DL
namespace DL
open PySem PySem.Spec PyProof.Rows L2
/-! ### a list == [], != [] -/
def eqLR (k : Bool) : DR2 := fun x y M Q => match x with
  | .ref a => match y with
    | .ref b => match M a with
      | some (.lst xs) => match M b with
        | some (.lst ys) => ys = [] ∧ Q (.bl (if k = true then decide (xs = []) else !decide (xs = []))) M
        | _ => False
      | _ => False
    | _ => False
  | _ => False
theorem do_eqLK {X : Cx} (k : Bool) (hu : X.A.units + 64 < cLine) : DOp X (compareOp (if k = true then .Eq else .NotEq)) (eqLR k) := fun pins s σ H x y v u Q I rx ry ⟨dx, dy, M, Qd, lm, r1, r2, q, dv⟩ => by
  cases dx with
  | ref a =>
    cases dy with
    | ref b =>
      simp only [eqLR] at q
      split at q
      · rename_i xs hx
        split at q
        · rename_i ys hy
          obtain ⟨rfl, q⟩ := q
          have fin : ∀ b, Qd (.bl b) M → Q (.bl b) H := fun b q => dv _ H (.bl b) M (Fr.refl _ _) lm rfl q
          rw [Rep] at r1 r2
          subst r1 r2
          obtain ⟨vs, h1, p1⟩ := lm a _ hx
          obtain ⟨us, h2, p2⟩ := lm b _ hy
          rw [Reps] at p2
          subst p2
          obtain rfl : v = Value.ref a := rx
          obtain rfl : u = Value.ref b := ry
          obtain ⟨i1, rv1, l1, _⟩ := I.list (X := X) (a := a) (.inl (.inl h1))
          obtain ⟨i2, rv2, l2, _⟩ := I.list (X := X) (a := b) (.inl (.inl h2))
          cases rv2
          by_cases e : xs = []
          · subst e
            rw [Reps] at p1
            subst p1
            have d1 : Dp X.K H (.ref a) (.list []) := .lst (.inl (.inl h1)) .nil
            have d2 : Dp X.K H (.ref b) (.list []) := .lst (.inl (.inl h2)) .nil
            cases k with
            | true => exact op_eqD hu pins s σ H (.ref a) (.ref b) _ _ Q I rfl rfl ⟨_, _, d1, d2, by decide, by decide, fin _ (by simpa [PyData.eqv, PyData.eqvAll] using q)⟩
            | false => exact op_neD hu pins s σ H (.ref a) (.ref b) _ _ Q I rfl rfl ⟨_, _, d1, d2, by decide, by decide, fin _ (by simpa [PyData.eqv, PyData.eqvAll] using q)⟩
          · have hlen : i1.length ≠ 0 := by
              rw [← rv1.length, p1.length]
              exact fun z => e (List.eq_nil_of_length_eq_zero z)
            have hsz : (i1.toArray.size != ([] : List Value).toArray.size) = true := by
              simp
              exact fun z => hlen (by rw [z]; rfl)
            cases k with
            | true => exact SeqAt.RcAt.lists_lengths l1.isList l2.isList hsz (by omega) _ _ _ _ ⟨.bl false, H, I, rfl, fin _ (by simpa [e] using q)⟩
            | false => exact SeqAt.RcNeAt.lists_lengths l1.isList l2.isList hsz (by omega) _ _ _ _ ⟨.bl true, H, I, rfl, fin _ (by simpa [e] using q)⟩
        · exact q.elim
      · exact q.elim
    | _ => exact q.elim
  | _ => exact q.elim
theorem do_eqL {X : Cx} (hu : X.A.units + 64 < cLine) : DOp X (compareOp .Eq) (eqLR true) := do_eqLK true hu
theorem do_neL {X : Cx} (hu : X.A.units + 64 < cLine) : DOp X (compareOp .NotEq) (eqLR false) := do_eqLK false hu
end DL
namespace DL
open PySem PySem.Spec PyProof.Rows L2
/-! ### the law's own def, and the end -/
/-- what the law is asked: the script, tables of code objects empty -/
def lawSp (K : PySem.W.Frag) (T : List (Addr × Str)) (n : Nat) : Sp := fun vs H Q E =>
  (∃ (a : Addr) (ns : List Int), vs = [.ref a] ∧ SqL K H a (ns.map V.int) ∧ ns.length ≤ n ∧ ∀ p ∈ T, H p.1 = some (.tbl #[])) ∧ Q = (fun v _ => v = .bl true) ∧ E = fun _ _ _ => False
/-- the small heap at the law's start -/
def tabM (T : List (Addr × Str)) : MH := fun b => (T.lookup b).map MO.tab
theorem reps_ints {K : PySem.W.Frag} {H : Hp} : ∀ ns : List Int, Reps K H (ns.map D.int) (ns.map V.int)
  | [] => rfl
  | i :: ns => ⟨.int i, _, rfl, rfl, reps_ints ns⟩
theorem tab_mem {T : List (Addr × Str)} {b : Addr} {q : Str} (h : T.lookup b = some q) : (b, q) ∈ T := by
  induction T with
  | nil => cases h
  | cons p T ih =>
    obtain ⟨a, r⟩ := p
    rw [List.lookup_cons] at h
    cases e : b == a with
    | true =>
      rw [e] at h
      cases h
      have : b = a := by simpa using e
      subst this
      exact List.mem_cons_self
    | false =>
      rw [e] at h
      exact List.mem_cons_of_mem _ (ih h)
theorem law_fn {P : Program} {w : World} {K : PySem.W.Frag} {mg : Str → Option Value} {base : Heap} {k n : Nat} {fa : Addr} {fd : FuncData} {x : Str} {sp : DSp} {T : List (Addr × Str)} (F : DFn P w K mg base k fa fd [x] sp)
    (hsp : ∀ (ns : List Int) (M : MH) (E : DXK) (Q : DVK), ns.length ≤ n → M = tabM T → (∀ M', Q (.bl true) M') → sp [.rol (ns.map .int)] M E Q) : FnOk P w K mg base (L2.CX P w) k fa fd [x] (lawSp K T n) := by
  refine ⟨fun vs H Q E ⟨⟨a, ns, e, _⟩, _⟩ => by rw [e]; rfl, fun A outer s H args us vs Q E hr e0 hb r hh => ?_⟩
  obtain ⟨⟨a, ns, rfl, hs, hl, hT⟩, rfl, rfl⟩ := hh
  have core : ∀ H : Hp, RoL K H a (ns.map V.int) → (∀ p ∈ T, H p.1 = some (.tbl #[])) → Env0 P w K mg base A outer s H → codeAny (model P w) A (.call (.ref fa) args) (CR (L2.CX P w) outer P w H s (fun v _ => v = .bl true) fun _ _ _ => False) s := by
    intro H ro hT e0
    refine F.run A outer s H args us [.ref a] _ _ hr e0 hb r ⟨[.rol (ns.map .int)], tabM T, fun _ _ => False, fun d _ => d = .bl true, fun b o e => ?_, ⟨.ref a, [], rfl, ⟨a, _, rfl, ro, reps_ints ns⟩, rfl⟩, hsp ns _ _ _ hl rfl fun _ => rfl, fun v H' d M' _ _ rd q => ?_, fun _ _ _ _ _ _ z => z.elim⟩
    · unfold tabM at e
      rw [Option.map_eq_some_iff] at e
      obtain ⟨q, hq, rfl⟩ := e
      exact LamX.TabS.nil (hT (b, q) (tab_mem hq))
    · subst q
      exact rd
  rcases hs with (hs | hs) | hs
  · obtain ⟨_, its, m, rv, ho⟩ := e0.hok a _ hs
    obtain ⟨o, eo⟩ : ∃ o, s.heap.get? a = some o := ⟨_, ho⟩
    have ne : ∀ b u, H b = some u → (∀ xs, u ≠ .lst xs) → b ≠ a := fun b u e h z => by rw [z, hs] at e; exact h _ (Option.some.inj e).symm
    have nn : ∀ b, H b = none → b ≠ a := fun b e z => by rw [z, hs] at e; cases e
    have at_ : ∀ b, b ≠ a → (fun b => if b = a then some (HO.frz o (.lst (ns.map V.int))) else H b) b = H b := fun b hb => if_neg hb
    have ate : (fun b => if b = a then some (HO.frz o (.lst (ns.map V.int))) else H b) a = some (HO.frz o (.lst (ns.map V.int))) := if_pos rfl
    have tT : ∀ p ∈ T, (fun b => if b = a then some (HO.frz o (.lst (ns.map V.int))) else H b) p.1 = some (.tbl #[]) := fun p hp => by rw [at_ _ (ne _ _ (hT p hp) (fun xs z => by cases z))]; exact hT p hp
    generalize (fun b => if b = a then some (HO.frz o (.lst (ns.map V.int))) else H b) = H' at at_ ate tT
    have e1 : Env0 P w K mg base A outer s H' := ⟨e0.frames, e0.mod, fun b u e => ⟨(e0.bs b u e).1, by rw [at_ b (nn b (e0.bs b u e).2)]; exact (e0.bs b u e).2⟩, e0.bsz, e0.funs, fun b hb => by rw [at_ b (nn b (e0.frf b hb))]; exact e0.frf b hb, fun b u e => by
      by_cases hb : b = a
      · subst hb
        rw [ate] at e
        cases e
        exact ⟨eo, e0.hok b _ hs⟩
      · rw [at_ b hb] at e
        exact (e0.hok b u e).stay (fun _ _ _ q => q) (fun c q => by rw [at_ c (ne c _ q fun xs z => by cases z)]; exact q) fun c xs q => by rw [at_ c (ne c _ q fun xs z => by cases z)]; exact q, e0.bare⟩
    refine codeAny_mono (core H' (.inl ⟨o, ate⟩) tT e1) fun r s' h => ?_
    cases r with
    | error e =>
      obtain ⟨_, _, _, _, _, _, _, _, _, _, _, _, z⟩ := h
      exact z.elim
    | ok fl =>
      cases fl with
      | ret u =>
        obtain ⟨v, H1, os, bare, un, hok1, rv1, q⟩ := h
        exact ⟨v, H1, os, bare, ⟨fun b ob e h1 h2 h3 => un.keep b ob e (by rw [at_ b (nn b h1)]; exact h1) h2 h3, fun b ob e h1 h2 h3 => un.slot b ob e (by rw [at_ b (nn b h1)]; exact h1) h2 h3, fun b ob e h1 h2 => un.free b ob e (by rw [at_ b (nn b h1)]; exact h1) h2, un.there,
          fun b xs e => un.tups b xs (by rw [at_ b (ne b _ e fun xs z => by cases z)]; exact e), fun b ob u e => un.frzs b ob u (by rw [at_ b (ne b _ e fun xs z => by cases z)]; exact e), fun b ps e => un.tbls b ps (by rw [at_ b (ne b _ e fun xs z => by cases z)]; exact e)⟩, hok1, rv1, q⟩
      | next => exact False.elim h
      | brk => exact False.elim h
      | cont => exact False.elim h
  · exact core H (.inl hs) hT e0
  · exact core H (.inr hs) hT e0
/-- the end, where a def other than the law makes code objects -/
theorem walk_ofDef {l : PySem.W.OpenLaw} {n k : Nat} {q : Program} {loose : List Str} {XP : (Str → Option Value) → Heap → Prop} {YP : World → Heap → Prop} {d : DefRec} {K : Params → PySem.W.Frag} {CX : World → CXT} {x : Str} (x2 : Str)
    (hn : l.most = some n) (hn2 : n ≤ sizeLine) (hdf : d.params.defaults = []) (hr : Room k callerA) (hrec : ((recsOf q).any fun e => e.name == x2) = true) (hY : ∀ (w : World) (h : Heap), YP w h → (K w.params).In h)
    (F : ∀ (w : World) (mg : Str → Option Value) (fa : Addr) (h : Heap), (K w.params).In h → h.Ns mainGlobals mg → mg d.name = some (.ref fa) → (∀ f2, mg x2 = some (.ref f2) → LamX.OwnTab (K w.params) f2 h) → LamX.LawAtS l w (K w.params) (CX w) k n x mg fa h)
    (hCX : ∀ (w : World) (H : Hp) (s : Shared) (e : Value) (s' : Shared), CX w [] H s (fun _ _ _ => False) e s' → False) :
    PySem.W.WalkO q loose XP YP l.row.toRowW d [] (fun f vs => PySem.call f vs) := by
  refine Att.attach_callB hn hdf fun w s₀ s₁ mg mb fa o pm cd doc a vs ns G Y ho hd hcd hmg hobj hints hlen hbits hg => ?_
  have KX := hY w _ Y
  have own : ∀ f2, mg x2 = some (.ref f2) → LamX.OwnTab (K w.params) f2 s₁.heap := fun f2 hm2 c P o1 fd1 e dd vs1 sl k1 k2 k3 k4 k5 => by
    obtain ⟨dL, hm, hn1⟩ := List.any_eq_true.mp hrec
    have hn2 : dL.name = x2 := beq_iff_eq.mp hn1
    obtain ⟨a', o', fd', c', P', h1, h2, h3, h4, h5, h6⟩ := G.T.tab dL hm
    rw [hn2, hm2] at h1
    cases h1
    have g1 := KX _ _ k1
    rw [g1] at h2
    cases h2
    rw [k2] at h3
    cases h3
    rw [k3] at h4
    cases h4
    obtain ⟨⟨oc, vc, e1, _, e3, e4⟩, hP⟩ := h6
    have g2 := KX _ _ k4
    rw [g2] at e1
    cases e1
    cases e3
    rw [k5] at e4
    cases e4
    exact hP
  obtain ⟨fd, cs, sp, hT, nT, C, hb, hsp, hF⟩ := F w mg fa _ KX G.T.g hmg own
  exact LamX.law_callTs KX G.T.g G.T.b G.T.builtins G.T.nolimit hg hT nT C G.T.bmain hobj hints (Nat.le_trans hlen hn2) hr hF hb (fun H hH hS => hsp H a ns hlen hbits hH hS) fun H e s' => hCX w H s₁ e s'
end DL
namespace DL
open PySem PySem.Spec PyProof.Rows L2
theorem codeHd_tab {K : PySem.W.Frag} {c P : Addr} (e : PySem.W.codeHdIn K c P = true) : ∃ (x : Value) (dd : Option Addr) (vs : Array Value) (sl : Array (Option Value)), K.lookup c = some ⟨x, dd, .fields vs, sl⟩ ∧ vs[11]? = some (.ref P) := by
  unfold PySem.W.codeHdIn at e
  split at e
  · rename_i vs _ hk
    simp only [Bool.and_eq_true] at e
    obtain ⟨⟨⟨⟨⟨e1, _⟩, _⟩, _⟩, _⟩, _⟩ := e
    split at e1
    · rename_i P' h11
      have hP : P' = P := beq_iff_eq.mp e1
      subst hP
      exact ⟨_, _, vs, _, hk, h11⟩
    · cases e1
  · cases e
end DL
namespace DL
open PySem PySem.Spec PyProof.Rows L2
/-! ### readings, unfolded by simp; what follows a statement stands as Go -/
def Go (u : DTS) (D0 : DEnds) : DSt → MH → Prop := u D0
section
variable {t u : DTS} {D0 : DEnds} {τ : DSt} {M : MH} {E : DXW} {Q : DVK} {QT : Bool → MH → Prop} {QA : List D → MH → Prop} {QG : DSt → MH → Prop} {te ta tb tc to ti : DTE} {tA tB : DTT} {tr : DTA} {g : DTG} {gs : DTGs} {r r' : DR2} {d x y z : D} {ds : List D} {i j n : Nat} {k : Int} {s : Str} {a : Addr} {wi : DTI} {k' : Bool}
@[simp] theorem s_seq : dSeq t u D0 τ M = t { nx := Go u D0, rt := D0.rt, bk := D0.bk, ct := D0.ct, xx := D0.xx } τ M := rfl
theorem s_go : Go u D0 τ M = u D0 τ M := rfl
theorem go (h : u D0 τ M) : Go u D0 τ M := h
@[simp] theorem s_skip : dSkip D0 τ M = D0.nx τ M := rfl
@[simp] theorem s_drop : dDrop te D0 τ M = te τ M D0.xx fun _ M1 => D0.nx τ M1 := rfl
@[simp] theorem s_break : dBreak D0 τ M = D0.bk τ M := rfl
@[simp] theorem s_cont : dCont D0 τ M = D0.ct τ M := rfl
@[simp] theorem s_ret : dRet te D0 τ M = te τ M D0.xx D0.rt := rfl
@[simp] theorem s_retN : dRetN D0 τ M = D0.rt .non M := rfl
@[simp] theorem s_if : dIf tA t u D0 τ M = tA τ M D0.xx fun b M1 => if b = true then t D0 τ M1 else u D0 τ M1 := rfl
@[simp] theorem s_asg : dAsg te g D0 τ M = te τ M D0.xx fun x M1 => g x τ M1 D0.xx D0.nx := rfl
@[simp] theorem s_par : dPar i j tr D0 τ M = tr τ M D0.xx fun ds M1 => match ds with | [v, u] => D0.nx ((τ.set i (some v)).set j (some u)) M1 | _ => False := rfl
@[simp] theorem s_aug : dAug i te r D0 τ M = match τ[i]? with | some (some x) => te τ M D0.xx fun y M1 => r x y M1 fun z M2 => D0.nx (τ.set i (some z)) M2 | _ => False := rfl
@[simp] theorem s_for : dFor wi g t D0 τ M = wi τ M D0.xx fun ds keep M1 => dFor1 g t D0 keep ds τ M1 := rfl
@[simp] theorem s_while : dWhile tA t D0 τ M = ∃ n, dWh tA t D0 n τ M := rfl
@[simp] theorem s_gname : dgName i d τ M E QG = QG (τ.set i (some d)) M := rfl
@[simp] theorem s_gtup : dgTup n gs (.tup ds) τ M E QG = (ds.length = n ∧ gs ds τ M E QG) := rfl
@[simp] theorem s_gcons : dgCons g gs (d :: ds) τ M E QG = g d τ M E fun τ' M' => gs ds τ' M' E QG := rfl
@[simp] theorem s_gnil : dgNil [] τ M E QG = QG τ M := rfl
@[simp] theorem s_gsub {st : DTSet} : dgSub to ti st d τ M E QG = to τ M E fun o M1 => ti τ M1 E fun i M2 => st o i d M2 fun M3 => QG τ M3 := rfl
@[simp] theorem s_var : dVar i τ M E Q = match τ[i]? with | some (some d) => Q d M | _ => False := rfl
@[simp] theorem s_c : dC d τ M E Q = Q d M := rfl
@[simp] theorem s_bin : dBin r ta tb τ M E Q = ta τ M E fun x M1 => tb τ M1 E fun y M2 => r x y M2 Q := rfl
@[simp] theorem s_b : dB te τ M E QT = te τ M E fun x M1 => match x with | .bl k => QT k M1 | _ => False := rfl
@[simp] theorem s_chain : dChain r r' ta tb tc τ M E Q = ta τ M E fun x M1 => tb τ M1 E fun y M2 => r x y M2 fun z M3 => match z with
  | .bl k => if k = true then tc τ M3 E fun u M4 => r' y u M4 Q else Q (.bl false) M3
  | _ => False := rfl
@[simp] theorem s_and : dAnd tA tB τ M E QT = tA τ M E fun c M1 => if c = true then tB τ M1 E QT else QT false M1 := rfl
@[simp] theorem s_or : dOr tA tB τ M E QT = tA τ M E fun c M1 => if c = true then QT true M1 else tB τ M1 E QT := rfl
@[simp] theorem s_not : dNot tA τ M E QT = tA τ M E fun c M1 => QT (!c) M1 := rfl
@[simp] theorem s_andV : dAndV ta tb τ M E Q = ta τ M E fun x M1 => match x with | .bl k => if k = true then tb τ M1 E Q else Q (.bl false) M1 | _ => False := rfl
@[simp] theorem s_orV : dOrV ta tb τ M E Q = ta τ M E fun x M1 => match x with | .bl k => if k = true then Q (.bl true) M1 else tb τ M1 E Q | _ => False := rfl
@[simp] theorem s_notV : dNotV ta τ M E Q = ta τ M E fun x M1 => match x with | .bl k => Q (.bl (!k)) M1 | _ => False := rfl
@[simp] theorem s_ifE : dIfE tA ta tb τ M E Q = tA τ M E fun c M1 => if c = true then ta τ M1 E Q else tb τ M1 E Q := rfl
@[simp] theorem s_nil : dNil τ M E QA = QA [] M := rfl
@[simp] theorem s_cons : dCons ta tr τ M E QA = ta τ M E fun x M1 => tr τ M1 E fun xs M2 => QA (x :: xs) M2 := rfl
@[simp] theorem s_tup : dTup tr τ M E Q = tr τ M E fun ds M1 => ds.length ≤ sizeLine ∧ Q (.tup ds) M1 := rfl
@[simp] theorem s_lst : dLst tr τ M E Q = tr τ M E fun ds M1 => ds.length ≤ sizeLine ∧ ∀ p, M1 p = none → Q (.ref p) (mup M1 p (.lst ds)) := rfl
@[simp] theorem s_neg : dNeg ta τ M E Q = ta τ M E fun x M1 => match x with | .int i => Q (.int (-i)) M1 | _ => False := rfl
@[simp] theorem s_cb {rc : DRC} : dCB rc tr τ M E Q = tr τ M E fun ds M1 => rc ds M1 Q := rfl
@[simp] theorem s_bm {T : String} {rm : DRM} : dBM T rm to tr τ M E Q = to τ M E fun x M1 => isTy T x M1 ∧ tr τ M1 E fun ds M2 => rm x ds M2 Q := rfl
@[simp] theorem s_call {sp : DSp} : dCall sp tr τ M E Q = tr τ M E fun ds M1 => sp ds M1 (fun c M2 => E c τ M2) Q := rfl
@[simp] theorem s_yes : dYes τ M E QT = QT true M := rfl
@[simp] theorem s_slice {tl th : DTO} : dSlice te tl th τ M E Q = te τ M E fun x M1 => tl τ M1 E fun l M2 => th τ M2 E fun u M3 => sliceR x l u M3 Q := rfl
@[simp] theorem s_nopart {QO : Option Int → MH → Prop} : dNoPart τ M E QO = QO none M := rfl
@[simp] theorem s_newS : dNewS τ M E Q = ∀ p, M p = none → Q (.ref p) (mup M p (.dct [])) := rfl
@[simp] theorem s_newN : dNewN τ M E Q = ∀ p, M p = none → Q (.ref p) (mup M p (.dcn [])) := rfl
@[simp] theorem s_iseq {kk : List D → (MH → Prop) → MH → Prop} : diSeq te τ M E kk = te τ M E fun x M1 => itemsOf x M1 fun ds keep => kk ds keep M1 := rfl
@[simp] theorem s_items_tup {kk : List D → (MH → Prop) → Prop} : itemsOf (.tup ds) M kk = kk ds fun _ => True := rfl
@[simp] theorem s_items_rol {kk : List D → (MH → Prop) → Prop} : itemsOf (.rol ds) M kk = kk ds fun _ => True := rfl
@[simp] theorem s_items_ref {kk : List D → (MH → Prop) → Prop} : itemsOf (.ref a) M kk = match M a with | some (.lst ds) => kk ds fun M => M a = some (.lst ds) | _ => False := rfl
@[simp] theorem s_rng1 {kk : List D → (MH → Prop) → MH → Prop} : diRng1 tr τ M E kk = tr τ M E fun ds M1 => match ds with
  | [.int j] => -(2 ^ 62) ≤ j ∧ j < 2 ^ 62 ∧ kk ((List.range j.toNat).map fun (i : Nat) => D.int (0 + i)) (fun _ => True) M1
  | _ => False := rfl
@[simp] theorem s_zip {kk : List D → (MH → Prop) → MH → Prop} : diZip tr τ M E kk = tr τ M E fun ds M1 => match ds with | [x, y] => zipOf x y M1 kk | _ => False := rfl
@[simp] theorem s_lc {vs : List Nat} : dLc wi vs g tA te τ M E Q = wi τ M E fun ds keep M1 => dComp1 g tA te keep (wipeD τ vs) (fun acc M2 => ∀ p, M2 p = none → Q (.ref p) (mup M2 p (.lst acc))) ds [] M1 := rfl
/-! operators -/
@[simp] theorem s_add_ii {k l : Int} : addR (.int k) (.int l) M Q = Q (.int (k + l)) M := rfl
@[simp] theorem s_add_rr {a b : Addr} : addR (.ref a) (.ref b) M Q = match M a with
  | some (.lst xs) => match M b with
    | some (.lst ys) => xs.length + ys.length ≤ sizeLine ∧ ∀ p, M p = none → Q (.ref p) (mup M p (.lst (xs ++ ys)))
    | _ => False
  | _ => False := rfl
@[simp] theorem s_add_tt {xs ys : List D} : addR (.tup xs) (.tup ys) M Q = (xs.length + ys.length ≤ sizeLine ∧ Q (.tup (xs ++ ys)) M) := rfl
@[simp] theorem s_iadd {k l : Int} : iaddR (.int k) (.int l) M Q = (True ∧ Q (.int (k + l)) M) := rfl
@[simp] theorem s_sub {k l : Int} : subR (.int k) (.int l) M Q = (True ∧ Q (.int (k - l)) M) := rfl
@[simp] theorem s_mul {k l : Int} : mulR (.int k) (.int l) M Q = (mulOk k l ∧ Q (.int (k * l)) M) := rfl
@[simp] theorem s_div {k l : Int} : divR (.int k) (.int l) M Q = ((0 < l ∧ l < 2 ^ 64) ∧ Q (.int (k / l)) M) := rfl
@[simp] theorem s_mod {k l : Int} : modR (.int k) (.int l) M Q = (0 < l ∧ Q (.int (k % l)) M) := rfl
@[simp] theorem s_pow {k l : Int} : powR (.int k) (.int l) M Q = ((0 ≤ l ∧ l ≤ 1000000 ∧ k.natAbs < 2 ^ 64) ∧ Q (.int (k ^ l.toNat)) M) := rfl
@[simp] theorem s_lt {k l : Int} : ltR (.int k) (.int l) M Q = Q (.bl (decide (k < l))) M := rfl
@[simp] theorem s_le {k l : Int} : leR (.int k) (.int l) M Q = Q (.bl (decide (k ≤ l))) M := rfl
@[simp] theorem s_gt {k l : Int} : gtR (.int k) (.int l) M Q = Q (.bl (decide (l < k))) M := rfl
@[simp] theorem s_ge {k l : Int} : geR (.int k) (.int l) M Q = Q (.bl (decide (l ≤ k))) M := rfl
@[simp] theorem s_eq_ii {k l : Int} : eqR true (.int k) (.int l) M Q = Q (.bl (decide (k = l))) M := by
  show ((true = true ∧ true = true) ∧ Q (.bl (if true = true then decide (D.int k = D.int l) else _)) M) = _
  simp
@[simp] theorem s_ne_ii {k l : Int} : eqR false (.int k) (.int l) M Q = Q (.bl (!decide (k = l))) M := by
  show ((true = true ∧ true = true) ∧ Q (.bl (if false = true then _ else !decide (D.int k = D.int l))) M) = _
  simp
/-- two data that are values -/
theorem eq_val {k : Bool} {x y : D} (hx : okD 60 x = true) (hy : okD 60 y = true) (h : Q (.bl (if k = true then decide (x = y) else !decide (x = y))) M) : eqR k x y M Q := by
  have e : ∀ z, okD 60 z = true → valM M z = z := fun z hz => by
    cases z with
    | ref a => simp [okD] at hz
    | _ => rfl
  cases x with
  | bl b => simp [okD] at hx
  | _ => exact ⟨⟨by rw [e _ hx]; exact hx, by rw [e _ hy]; exact hy⟩, by rw [e _ hx, e _ hy]; exact h⟩
@[simp] theorem s_ix_tup {k : Int} : ixR (.tup ds) (.int k) M Q = match atI ds k with | some d => Q d M | none => False := rfl
@[simp] theorem s_ix_rol {k : Int} : ixR (.rol ds) (.int k) M Q = match atI ds k with | some d => Q d M | none => False := rfl
@[simp] theorem s_ix_ref {k : Int} : ixR (.ref a) (.int k) M Q = match M a with
    | some (.lst ds) => match atI ds k with
        | some d => Q d M
        | none => False
    | some (.dct kvs) => keyS (.int k) = true ∧ match look (.int k) kvs with
      | some d => Q d M
      | none => False
    | some (.dcn kvs) => keyT (.int k) = true ∧ match look (.int k) kvs with
      | some d => Q d M
      | none => False
    | _ => False := rfl
@[simp] theorem s_in_dcn {k : Bool} : inR k x (.ref a) M Q = match M a with
    | some (.lst ds) => (okD 50 x = true ∧ okDs 50 ds = true) ∧ Q (.bl (yes k (decide (x ∈ ds)))) M
    | some (.dct kvs) => keyS x = true ∧ Q (.bl (yes k (look x kvs).isSome)) M
    | some (.dcn kvs) => keyT x = true ∧ Q (.bl (yes k (look x kvs).isSome)) M
    | _ => False := rfl
@[simp] theorem s_set {v : D} {QM : MH → Prop} : setR (.ref a) (.int k) v M QM = match M a with
    | some (.lst ds) => match ixN ds.length k with
        | some j => QM (mup M a (.lst (ds.set j v)))
        | none => False
    | some (.dct kvs) => keyS (.int k) = true ∧ kvs.length < sizeLine ∧ QM (mup M a (.dct (putD (.int k) v kvs)))
    | some (.dcn kvs) => keyT (.int k) = true ∧ kvs.length < sizeLine ∧ QM (mup M a (.dcn (putD (.int k) v kvs)))
    | _ => False := rfl
@[simp] theorem s_len_tup : lenR [.tup ds] M Q = Q (.int ds.length) M := rfl
@[simp] theorem s_len_rol : lenR [.rol ds] M Q = Q (.int ds.length) M := rfl
@[simp] theorem s_len_ref : lenR [.ref a] M Q = match M a with | some (.lst xs) => Q (.int xs.length) M | _ => False := rfl
@[simp] theorem s_intc_i : intcR [.int k] M Q = Q (.int k) M := rfl
@[simp] theorem s_intc_b : intcR [.bl k'] M Q = Q (.int (if k' = true then 1 else 0)) M := rfl
@[simp] theorem s_tuple_tup : tupleR [.tup ds] M Q = Q (.tup ds) M := rfl
@[simp] theorem s_tuple_ref : tupleR [.ref a] M Q = match M a with | some (.lst xs) => Q (.tup xs) M | _ => False := rfl
@[simp] theorem s_append : appendR (.ref a) [d] M Q = match M a with | some (.lst xs) => xs.length < sizeLine ∧ Q .non (mup M a (.lst (xs ++ [d]))) | _ => False := rfl
@[simp] theorem s_isty {T : String} : isTy T (.ref a) M = match M a with
    | some (.lst _) => T = "list"
    | some (.dct _) => T = "dict"
    | some (.dcn _) => T = "dict"
    | _ => False := rfl
@[simp] theorem s_max {k l : Int} : max2R [.int k, .int l] M Q = Q (.int (max k l)) M := rfl
@[simp] theorem s_min {k l : Int} : min2R [.int k, .int l] M Q = Q (.int (min k l)) M := rfl
@[simp] theorem s_sorted_ref : sortedR [.ref a] M Q = match M a with | some (.lst xs) => sortC xs ∧ ∀ p, M p = none → Q (.ref p) (mup M p (.lst (sortD xs))) | _ => False := rfl
@[simp] theorem s_dict_ref : dictR [.ref a] M Q = match M a with
    | some (.lst xs) => ∃ kvs : List (D × D), xs = kvs.map pairD ∧ (∀ p ∈ kvs, keyT p.1 = true) ∧ xs.length ≤ sizeLine ∧ ∀ p, M p = none → Q (.ref p) (mup M p (.dcn (fillD kvs [])))
    | _ => False := rfl
@[simp] theorem mup_at {o : MO} : mup M a o a = some o := mup_same
end
theorem mulOk_l {i j : Int} (h1 : -(2 ^ 64) < i) (h2 : i < 2 ^ 64) : mulOk i j := .inl (.inl ⟨h1, h2⟩)
theorem mulOk_r {i j : Int} (h1 : -(2 ^ 64) < j) (h2 : j < 2 ^ 64) : mulOk i j := .inl (.inr ⟨h1, h2⟩)
/-- what is wanted behind a def, the small heap as it is -/
theorem endQ {Q : DVK} {d : D} {M : MH} (h : Q d M) : ∃ M0, MLe M0 M ∧ Q d M0 := ⟨M, MLe.refl M, h⟩
theorem atI_nat {α : Type} {xs : List α} {i : Nat} {x : α} (h : xs[i]? = some x) : atI xs (i : Int) = some x := by
  have hl : i < xs.length := (List.getElem?_eq_some_iff.mp h).1
  unfold atI ixN
  rw [if_pos (by omega), if_pos (by omega)]
  exact h
theorem atI_of {α : Type} {xs : List α} {k : Int} {x : α} (h0 : 0 ≤ k) (h : xs[k.toNat]? = some x) : atI xs k = some x := by
  have e : ((k.toNat : Nat) : Int) = k := Int.toNat_of_nonneg h0
  rw [← e]
  exact atI_nat h
theorem atI_lastOf {α : Type} {xs : List α} {x : α} (h : xs.getLast? = some x) : atI xs (-1) = some x := by
  have hl : 0 < xs.length := by
    cases xs with
    | nil => simp at h
    | cons _ _ => simp
  unfold atI ixN
  rw [if_neg (by omega), if_pos (by omega)]
  have e : (-1 + (xs.length : Int)).toNat = xs.length - 1 := by omega
  show xs[(-1 + (xs.length : Int)).toNat]? = some x
  rw [e, ← List.getLast?_eq_getElem?]
  exact h
@[simp] theorem atI_0 {α : Type} {x : α} {xs : List α} : atI (x :: xs) 0 = some x := atI_nat (i := 0) rfl
@[simp] theorem atI_1 {α : Type} {x y : α} {xs : List α} : atI (x :: y :: xs) 1 = some y := atI_nat (i := 1) rfl
@[simp] theorem atI_2 {α : Type} {x y z : α} {xs : List α} : atI (x :: y :: z :: xs) 2 = some z := atI_nat (i := 2) rfl
@[simp] theorem ixN3_0 : ixN 3 0 = some 0 := rfl
@[simp] theorem ixN3_1 : ixN 3 1 = some 1 := rfl
@[simp] theorem ixN3_2 : ixN 3 2 = some 2 := rfl
@[simp] theorem dEnds_rt {Q : DVK} {E : DXK} : (dEnds Q E).rt = fun d M' => ∃ M0, MLe M0 M' ∧ Q d M0 := rfl
@[simp] theorem dEnds_xx {Q : DVK} {E : DXK} : (dEnds Q E).xx = fun c _ M' => ∃ M0, MLe M0 M' ∧ E c M0 := rfl
/-! ### loops by invariants -/
theorem for_inv {g : DTG} {tb : DTS} {Dd : DEnds} {keep : MH → Prop} (I : List D → DSt → MH → Prop)
    (step : ∀ d r τ M (N : DSt → MH → Prop), I (d :: r) τ M → (∀ τ' M', I r τ' M' → N τ' M') → keep M ∧ g d τ M Dd.xx fun τ2 M2 => tb { nx := Up N, rt := Dd.rt, bk := Dd.nx, ct := Up N, xx := Dd.xx } τ2 M2)
    (fin : ∀ τ M, I [] τ M → keep M ∧ Dd.nx τ M) : ∀ l τ M, I l τ M → dFor1 g tb Dd keep l τ M
  | [], τ, M, h => fin τ M h
  | d :: r, τ, M, h => step d r τ M _ h fun τ' M' h' => for_inv I step fin r τ' M' h'
theorem while_inv {tc : DTT} {tb : DTS} {Dd : DEnds} (I : Nat → DSt → MH → Prop)
    (step : ∀ n τ M (N : DSt → MH → Prop), I n τ M → (∀ m τ' M', m < n → I m τ' M' → N τ' M') → tc τ M Dd.xx fun b M1 => if b = true then tb { nx := Up N, rt := Dd.rt, bk := Dd.nx, ct := Up N, xx := Dd.xx } τ M1 else Dd.nx τ M1)
    (n : Nat) (τ : DSt) (M : MH) (h : I n τ M) : ∃ k, dWh tc tb Dd k τ M := by
  have key : ∀ k n τ M, n ≤ k → I n τ M → dWh tc tb Dd (k + 1) τ M := by
    intro k
    induction k with
    | zero =>
      intro n τ M hn h
      exact step n τ M _ h fun m τ' M' hm _ => absurd hm (by omega)
    | succ k ih =>
      intro n τ M hn h
      exact step n τ M _ h fun m τ' M' hm h' => ih m τ' M' (by omega) h'
  exact ⟨n + 1, key n n τ M (Nat.le_refl n) h⟩
theorem comp_inv {g : DTG} {tt : DTT} {te : DTE} {keep : MH → Prop} {τ : DSt} {Q : List D → MH → Prop} (I : List D → List D → MH → Prop)
    (step : ∀ d r acc M (N : List D → MH → Prop), I (d :: r) acc M → (∀ acc' M', I r acc' M' → N acc' M') → keep M ∧ g d τ M EF fun τ2 M2 => tt τ2 M2 EF fun b M3 =>
      if b = true then te τ2 M3 EF fun y M4 => acc.length < sizeLine ∧ ∃ M5, MLe M5 M4 ∧ N (acc ++ [y]) M5 else ∃ M5, MLe M5 M3 ∧ N acc M5)
    (fin : ∀ acc M, I [] acc M → keep M ∧ Q acc M) : ∀ l acc M, I l acc M → dComp1 g tt te keep τ Q l acc M
  | [], acc, M, h => fin acc M h
  | d :: r, acc, M, h => step d r acc M _ h fun acc' M' h' => comp_inv I step fin r acc' M' h'
end DL
/-! The readings of the defs that the laws k11 to k14 share, and what they promise. -/
namespace DL
open PySem PySem.Spec PyProof.Rows L2
abbrev gv_DOWN : D := .str "down"
abbrev gv_RIGHT : D := .str "right"
def rd_step_of : DTS :=
  (dSeq (dIf (dB (dBin (eqR true) (dVar 0) (dC gv_DOWN))) (dRet (dTup (dCons (dC (.int 1)) (dCons (dC (.int 0)) dNil)))) dSkip)
  (dRet (dTup (dCons (dC (.int 0)) (dCons (dC (.int 1)) dNil)))))
def rd_moved_on : DTS :=
  (dRet (dTup (dCons (dBin addR (dBin ixR (dVar 0) (dC (.int 0))) (dBin mulR (dVar 2) (dBin ixR (dVar 1) (dC (.int 0))))) (dCons (dBin addR (dBin ixR (dVar 0) (dC (.int 1))) (dBin mulR (dVar 2) (dBin ixR (dVar 1) (dC (.int 1))))) dNil))))
def rd_runs_along (sp_moved_on : DSp) (sp_step_of : DSp) : DTS :=
  (dSeq (dAsg (dCall sp_step_of (dCons (dVar 1) dNil)) (dgName 2))
  (dSeq (dAsg (dCB dictR (dCons (dLc (diSeq (dVar 0)) [5] (dgName 5) dYes (dTup (dCons (dVar 5) (dCons (dC (.bl true)) dNil)))) dNil)) (dgName 3))
  (dSeq (dAsg (dLst dNil) (dgName 4))
  (dSeq (dFor (diSeq (dVar 0)) (dgName 5) (dIf (dB (dBin (inR false) (dCall sp_moved_on (dCons (dVar 5) (dCons (dVar 2) (dCons (dNeg (dC (.int 1))) dNil)))) (dVar 3))) (dSeq (dAsg (dC (.int 1)) (dgName 6))
  (dSeq (dWhile (dB (dBin (inR true) (dCall sp_moved_on (dCons (dVar 5) (dCons (dVar 2) (dCons (dVar 6) dNil)))) (dVar 3))) (dAug 6 (dC (.int 1)) iaddR))
  (dDrop (dBM "list" appendR (dVar 4) (dCons (dTup (dCons (dVar 1) (dCons (dVar 5) (dCons (dVar 6) dNil)))) dNil))))) dSkip))
  (dRet (dVar 4))))))
def rd_runs (sp_runs_along : DSp) : DTS :=
  (dRet (dCB tupleR (dCons (dCB sortedR (dCons (dBin addR (dCall sp_runs_along (dCons (dVar 0) (dCons (dC gv_DOWN) dNil))) (dCall sp_runs_along (dCons (dVar 0) (dCons (dC gv_RIGHT) dNil)))) dNil)) dNil)))
def rd_cell_at : DTS :=
  (dSeq (dIf (dB (dBin ltR (dVar 1) (dCB lenR (dCons (dVar 0) dNil)))) (dRet (dBin ixR (dVar 0) (dVar 1))) dSkip)
  (dRet (dC (.int 0))))
def rd_hand (sp_cell_at : DSp) : DTS :=
  (dSeq (dAsg (dCall sp_cell_at (dCons (dVar 0) (dCons (dVar 1) dNil))) (dgName 2))
  (dSeq (dAsg (dBin mulR (dBin mulR (dBin powR (dC (.int 10)) (dC (.int 60))) (dBin powR (dC (.int 10)) (dC (.int 60)))) (dBin powR (dC (.int 10)) (dC (.int 60)))) (dgName 3))
  (dSeq (dAsg (dBin modR (dBin mulR (dBin addR (dBin addR (dBin modR (dVar 2) (dC (.int 2147483629))) (dBin mulR (dBin mulR (dC (.int 7919)) (dVar 1)) (dVar 1))) (dC (.int 11))) (dC (.int 48271))) (dC (.int 2147483647))) (dgName 4))
  (dRet (dLst (dCons (dBin mulR (dBin modR (dVar 2) (dVar 3)) (dCB intcR (dCons (dBin geR (dVar 2) (dBin powR (dC (.int 10)) (dC (.int 18)))) dNil))) (dCons (dVar 4) (dCons (dC (.int 0)) dNil))))))))
def rd_pick : DTS :=
  (dSeq (dIf (dB (dBin gtR (dBin ixR (dVar 0) (dC (.int 0))) (dC (.int 0)))) (dSeq (dAsg (dBin modR (dBin ixR (dVar 0) (dC (.int 0))) (dVar 1)) (dgName 2))
  (dSeq (dAsg (dBin divR (dBin ixR (dVar 0) (dC (.int 0))) (dVar 1)) (dgSub (dVar 0) (dC (.int 0)) setR))
  (dRet (dVar 2)))) dSkip)
  (dSeq (dAsg (dBin addR (dBin ixR (dVar 0) (dC (.int 2))) (dC (.int 1))) (dgSub (dVar 0) (dC (.int 2)) setR))
  (dSeq (dAsg (dBin modR (dBin addR (dBin addR (dBin mulR (dBin ixR (dVar 0) (dC (.int 1))) (dC (.int 48271))) (dC (.int 12345))) (dBin mulR (dC (.int 7919)) (dBin ixR (dVar 0) (dC (.int 2))))) (dC (.int 2147483647))) (dgSub (dVar 0) (dC (.int 1)) setR))
  (dRet (dBin modR (dBin divR (dBin modR (dBin mulR (dBin ixR (dVar 0) (dC (.int 1))) (dBin ixR (dVar 0) (dC (.int 1)))) (dC (.int 1999999973))) (dC (.int 31))) (dVar 1))))))
def rd_floor (sp_grown : DSp) (sp_pick : DSp) : DTS :=
  (dSeq (dAsg (dCall sp_pick (dCons (dVar 0) (dCons (dC (.int 8)) dNil))) (dgName 1))
  (dSeq (dAsg (dTup (dCons (dBin addR (dC (.int 1)) (dCall sp_pick (dCons (dVar 0) (dCons (dC (.int 8)) dNil)))) (dCons (dBin addR (dC (.int 1)) (dCall sp_pick (dCons (dVar 0) (dCons (dC (.int 8)) dNil)))) dNil))) (dgTup 2 (dgCons (dgName 2) (dgCons (dgName 3) dgNil))))
  (dSeq (dIf (dB (dBin (eqR true) (dCall sp_pick (dCons (dVar 0) (dCons (dC (.int 8)) dNil))) (dC (.int 0)))) (dAsg (dBin ixR (dLst (dCons (dTup (dCons (dC (.int 1)) (dCons (dC (.int 31)) dNil))) (dCons (dTup (dCons (dC (.int 31)) (dCons (dC (.int 1)) dNil))) (dCons (dTup (dCons (dC (.int 2)) (dCons (dC (.int 31)) dNil))) (dCons (dTup (dCons (dC (.int 31)) (dCons (dC (.int 2)) dNil))) dNil))))) (dCall sp_pick (dCons (dVar 0) (dCons (dC (.int 4)) dNil)))) (dgTup 2 (dgCons (dgName 2) (dgCons (dgName 3) dgNil)))) dSkip)
  (dSeq (dAsg (dTup (dCons (dCall sp_pick (dCons (dVar 0) (dCons (dBin subR (dC (.int 32)) (dVar 2)) dNil))) (dCons (dCall sp_pick (dCons (dVar 0) (dCons (dBin subR (dC (.int 32)) (dVar 3)) dNil))) dNil))) (dgTup 2 (dgCons (dgName 4) (dgCons (dgName 5) dgNil))))
  (dSeq (dAsg (dLc (diRng1 (dCons (dBin mulR (dVar 2) (dVar 3)) dNil)) [8] (dgName 8) dYes (dTup (dCons (dBin addR (dVar 4) (dBin divR (dVar 8) (dVar 3))) (dCons (dBin addR (dVar 5) (dBin modR (dVar 8) (dVar 3))) dNil)))) (dgName 6))
  (dSeq (dIf (dB (dBin ltR (dVar 1) (dC (.int 2)))) (dRet (dCB tupleR (dCons (dVar 6) dNil))) dSkip)
  (dSeq (dIf (dB (dBin ltR (dVar 1) (dC (.int 6)))) (dSeq (dAsg (dBin ixR (dLst (dCons (dC (.int 2)) (dCons (dC (.int 3)) (dCons (dC (.int 4)) (dCons (dC (.int 8)) dNil))))) (dCall sp_pick (dCons (dVar 0) (dCons (dC (.int 4)) dNil)))) (dgName 7))
  (dRet (dCB tupleR (dCons (dLc (diSeq (dVar 6)) [9] (dgName 9) (dB (dBin gtR (dCall sp_pick (dCons (dVar 0) (dCons (dVar 7) dNil))) (dC (.int 0)))) (dVar 9)) dNil)))) dSkip)
  (dRet (dCall sp_grown (dCons (dVar 0) (dCons (dBin addR (dC (.int 1)) (dCall sp_pick (dCons (dVar 0) (dCons (dBin ixR (dLst (dCons (dC (.int 6)) (dCons (dC (.int 24)) (dCons (dC (.int 60)) dNil)))) (dCall sp_pick (dCons (dVar 0) (dCons (dC (.int 3)) dNil)))) dNil)))) dNil)))))))))))
def rd_grown (sp_pick : DSp) : DTS :=
  (dSeq (dAsg (dLst (dCons (dTup (dCons (dCall sp_pick (dCons (dVar 0) (dCons (dC (.int 31)) dNil))) (dCons (dCall sp_pick (dCons (dVar 0) (dCons (dC (.int 31)) dNil))) dNil))) dNil)) (dgName 2))
  (dSeq (dFor (diRng1 (dCons (dBin mulR (dC (.int 2)) (dVar 1)) dNil)) (dgName 3) (dSeq (dAsg (dBin ixR (dVar 2) (dCall sp_pick (dCons (dVar 0) (dCons (dCB lenR (dCons (dVar 2) dNil)) dNil)))) (dgTup 2 (dgCons (dgName 4) (dgCons (dgName 5) dgNil))))
  (dSeq (dIf (dB (dBin (eqR true) (dCall sp_pick (dCons (dVar 0) (dCons (dC (.int 2)) dNil))) (dC (.int 0)))) (dAsg (dBin ixR (dVar 2) (dNeg (dC (.int 1)))) (dgTup 2 (dgCons (dgName 4) (dgCons (dgName 5) dgNil)))) dSkip)
  (dSeq (dAsg (dBin ixR (dLst (dCons (dTup (dCons (dC (.int 0)) (dCons (dC (.int 1)) dNil))) (dCons (dTup (dCons (dC (.int 1)) (dCons (dC (.int 0)) dNil))) (dCons (dTup (dCons (dC (.int 0)) (dCons (dNeg (dC (.int 1))) dNil))) (dCons (dTup (dCons (dNeg (dC (.int 1))) (dCons (dC (.int 0)) dNil))) dNil))))) (dCall sp_pick (dCons (dVar 0) (dCons (dC (.int 4)) dNil)))) (dgTup 2 (dgCons (dgName 6) (dgCons (dgName 7) dgNil))))
  (dSeq (dAsg (dTup (dCons (dBin addR (dVar 4) (dVar 6)) (dCons (dBin addR (dVar 5) (dVar 7)) dNil))) (dgName 8))
  (dIf (dAnd (dB (dBin (inR false) (dVar 8) (dVar 2))) (dAnd (dB (dBin ltR (dCB lenR (dCons (dVar 2) dNil)) (dVar 1))) (dAnd (dB (dChain leR leR (dC (.int 0)) (dBin ixR (dVar 8) (dC (.int 0))) (dC (.int 30)))) (dB (dChain leR leR (dC (.int 0)) (dBin ixR (dVar 8) (dC (.int 1))) (dC (.int 30))))))) (dDrop (dBM "list" appendR (dVar 2) (dCons (dVar 8) dNil))) dSkip))))))
  (dRet (dCB tupleR (dCons (dCB sortedR (dCons (dVar 2) dNil)) dNil)))))
def rd_runs_of (tP : Addr) : DTS :=
  (dSeq (dAsg (dLst dNil) (dgName 2))
  (dSeq (dFor (diSeq (dSortLam 0 1 tP "_law_runs_of.<locals>.<lambda>" "down")) (dgName 3) (dSeq (dAsg (dTup (dCons (dBin subR (dBin ixR (dVar 3) (dC (.int 0))) (dCB intcR (dCons (dBin (eqR true) (dVar 1) (dC (.str "down"))) dNil))) (dCons (dBin subR (dBin ixR (dVar 3) (dC (.int 1))) (dCB intcR (dCons (dBin (eqR true) (dVar 1) (dC (.str "right"))) dNil))) dNil))) (dgName 4))
  (dIf (dAnd (dB (dBin (eqLR false) (dVar 2) (dLst dNil))) (dB (dBin (eqR true) (dBin ixR (dBin ixR (dVar 2) (dNeg (dC (.int 1)))) (dNeg (dC (.int 1)))) (dVar 4)))) (dDrop (dBM "list" appendR (dBin ixR (dVar 2) (dNeg (dC (.int 1)))) (dCons (dVar 3) dNil))) (dDrop (dBM "list" appendR (dVar 2) (dCons (dLst (dCons (dVar 3) dNil)) dNil))))))
  (dRet (dLc (diSeq (dVar 2)) [5] (dgName 5) dYes (dTup (dCons (dVar 1) (dCons (dBin ixR (dVar 5) (dC (.int 0))) (dCons (dCB lenR (dCons (dVar 5) dNil)) dNil))))))))
def rd_all_runs (sp_runs_of : DSp) : DTS :=
  (dRet (dCB sortedR (dCons (dBin addR (dCall sp_runs_of (dCons (dVar 0) (dCons (dC (.str "down")) dNil))) (dCall sp_runs_of (dCons (dVar 0) (dCons (dC (.str "right")) dNil)))) dNil)))
def rd_same (sp_same : DSp) : DTS :=
  (dSeq (dIf (dB (dCB isiR (dCons (dVar 1) (dCons (dC (.ty "tuple")) dNil)))) (dSeq (dIf (dOr (dNot (dB (dCB isiR (dCons (dVar 0) (dCons (dC (.ty "tuple")) dNil))))) (dB (dBin (eqR false) (dCB lenR (dCons (dVar 0) dNil)) (dCB lenR (dCons (dVar 1) dNil))))) (dRet (dC (.bl false))) dSkip)
  (dRet (dCB allR (dCons (dLc (diZip (dCons (dVar 0) (dCons (dVar 1) dNil))) [2, 3] (dgTup 2 (dgCons (dgName 2) (dgCons (dgName 3) dgNil))) dYes (dCall sp_same (dCons (dVar 2) (dCons (dVar 3) dNil)))) dNil)))) dSkip)
  (dSeq (dIf (dB (dCB isiR (dCons (dVar 1) (dCons (dC (.ty "str")) dNil)))) (dRet (dAndV (dCB isiR (dCons (dVar 0) (dCons (dC (.ty "str")) dNil))) (dBin (eqR true) (dVar 0) (dVar 1)))) dSkip)
  (dRet (dAndV (dCB isiR (dCons (dVar 0) (dCons (dC (.ty "int")) dNil))) (dAndV (dNotV (dCB isiR (dCons (dVar 0) (dCons (dC (.ty "bool")) dNil)))) (dBin (eqR true) (dVar 0) (dVar 1)))))))
def rd_law (sp_all_runs : DSp) (sp_floor : DSp) (sp_hand : DSp) (sp_same : DSp) (sp_runs : DSp) : DTS :=
  (dSeq (dFor (diRng1 (dCons (dCB max2R (dCons (dC (.int 1)) (dCons (dCB min2R (dCons (dC (.int 6)) (dCons (dCB lenR (dCons (dVar 0) dNil)) dNil))) dNil))) dNil)) (dgName 1) (dSeq (dAsg (dCall sp_hand (dCons (dVar 0) (dCons (dVar 1) dNil))) (dgName 2))
  (dFor (diRng1 (dCons (dC (.int 2)) dNil)) (dgName 3) (dSeq (dAsg (dCall sp_floor (dCons (dVar 2) dNil)) (dgName 4))
  (dSeq (dAsg (dCB tupleR (dCons (dCall sp_all_runs (dCons (dVar 4) dNil)) dNil)) (dgName 5))
  (dFor (diRng1 (dCons (dC (.int 2)) dNil)) (dgName 6) (dIf (dNot (dB (dCall sp_same (dCons (dCall sp_runs (dCons (dVar 4) dNil)) (dCons (dVar 5) dNil))))) (dRet (dC (.bl false))) dSkip)))))))
  (dRet (dAndV (dBin (eqR true) (dCall sp_runs (dCons (dTup dNil) dNil)) (dTup dNil)) (dCall sp_same (dCons (dCall sp_runs (dCons (dTup (dCons (dTup (dCons (dC (.int 3)) (dCons (dC (.int 4)) dNil))) dNil)) dNil)) (dCons (dTup (dCons (dTup (dCons (dC (.str "down")) (dCons (dTup (dCons (dC (.int 3)) (dCons (dC (.int 4)) dNil))) (dCons (dC (.int 1)) dNil)))) (dCons (dTup (dCons (dC (.str "right")) (dCons (dTup (dCons (dC (.int 3)) (dCons (dC (.int 4)) dNil))) (dCons (dC (.int 1)) dNil)))) dNil))) dNil))))))
@[simp] theorem s_eqL {k : Bool} {a b : Addr} {M : MH} {Q : DVK} : eqLR k (.ref a) (.ref b) M Q = match M a with
      | some (.lst xs) => match M b with
        | some (.lst ys) => ys = [] ∧ Q (.bl (if k = true then decide (xs = []) else !decide (xs = []))) M
        | _ => False
      | _ => False := rfl
@[simp] theorem s_all {a : Addr} {M : MH} {Q : DVK} : allR [.ref a] M Q = match M a with
  | some (.lst xs) => match blsOf xs with
    | some bs => Q (.bl (bs.all id)) M
    | none => False
  | _ => False := rfl
/-! ### promises -/
abbrev Cell := Int × Int
/-- the hand: what is left of the number, the seed, the count -/
abbrev Hand := Int × Int × Int
def handD (s : Hand) : MO := .lst [.int s.1, .int s.2.1, .int s.2.2]
def okCell (c : Cell) : Prop := 0 ≤ c.1 ∧ c.1 ≤ 30 ∧ 0 ≤ c.2 ∧ c.2 ≤ 30
structure Good (F : List Cell) : Prop where
  nd : F.Nodup
  len : F.length ≤ 100
  ok : ∀ c ∈ F, okCell c
def stepOf (dn : Bool) : Cell := if dn = true then (1, 0) else (0, 1)
def moved (c s : Cell) (m : Int) : Cell := (c.1 + m * s.1, c.2 + m * s.2)
def wordS (dn : Bool) : Str := if dn = true then "down" else "right"
/-- how far a run goes from c -/
def lenN (F : List Cell) (s c : Cell) : Nat → Nat → Nat
  | 0, m => m
  | f + 1, m => if moved c s m ∈ F then lenN F s c f (m + 1) else m
def alongL (F : List Cell) (dn : Bool) : List (Cell × Nat) := (F.filter fun c => decide (moved c (stepOf dn) (-1) ∉ F)).map fun c => (c, lenN F (stepOf dn) c 40 1)
def runD (dn : Bool) (r : Cell × Nat) : D := .tup [.str (wordS dn), cellD r.1, .int r.2]
def runsD (F : List Cell) : List D := sortD ((alongL F true).map (runD true) ++ (alongL F false).map (runD false))
abbrev lamQ : Str := "_law_runs_of.<locals>.<lambda>"
def sp_step_of : DSp := fun ds M _ Q => ∃ dn, ds = [.str (wordS dn)] ∧ Q (cellD (stepOf dn)) M
def sp_moved_on : DSp := fun ds M _ Q => ∃ (c s : Cell) (m : Int), ds = [cellD c, cellD s, .int m] ∧ -(2 ^ 64) < m ∧ m < 2 ^ 64 ∧ Q (cellD (moved c s m)) M
def sp_runs_along : DSp := fun ds M _ Q => ∃ (F : List Cell) (dn : Bool), ds = [.tup (F.map cellD), .str (wordS dn)] ∧ Good F ∧ ∀ p, M p = none → Q (.ref p) (mup M p (.lst ((alongL F dn).map (runD dn))))
def sp_runs : DSp := fun ds M _ Q => ∃ F : List Cell, ds = [.tup (F.map cellD)] ∧ Good F ∧ Q (.tup (runsD F)) M
def sp_cell_at : DSp := fun ds M _ Q => ∃ (ns : List Int) (k : Int), ds = [.rol (ns.map .int), .int k] ∧ 0 ≤ k ∧ k < 2 ^ 62 ∧ ∀ i, Q (.int i) M
def sp_hand : DSp := fun ds M _ Q => ∃ (ns : List Int) (k : Int), ds = [.rol (ns.map .int), .int k] ∧ 0 ≤ k ∧ k < 2 ^ 62 ∧ ∀ s p, M p = none → Q (.ref p) (mup M p (handD s))
def sp_pick : DSp := fun ds M _ Q => ∃ h n s, ds = [.ref h, .int n] ∧ M h = some (handD s) ∧ 0 < n ∧ n < 2 ^ 64 ∧ ∀ v s', 0 ≤ v → v < n → Q (.int v) (mup M h (handD s'))
def sp_grown : DSp := fun ds M _ Q => ∃ h n s, ds = [.ref h, .int n] ∧ M h = some (handD s) ∧ 0 < n ∧ n ≤ 100 ∧ ∀ F s', Good F → Q (.tup (F.map cellD)) (mup M h (handD s'))
def sp_floor : DSp := fun ds M _ Q => ∃ h s, ds = [.ref h] ∧ M h = some (handD s) ∧ ∀ F s', Good F → Q (.tup (F.map cellD)) (mup M h (handD s'))
def grpL (F : List Cell) (dn : Bool) : List (Cell × Nat) := ((F.mergeSort (kLe dn)).filter fun c => decide (moved c (stepOf dn) (-1) ∉ F)).map fun c => (c, lenN F (stepOf dn) c 40 1)
def sp_runs_of (tP : Addr) : DSp := fun ds M _ Q => ∃ (F : List Cell) (dn : Bool), ds = [.tup (F.map cellD), .str (wordS dn)] ∧ Good F ∧ M tP = some (.tab lamQ) ∧ ∀ p, M p = none → Q (.ref p) (mup M p (.lst ((grpL F dn).map (runD dn))))
def sp_all_runs (tP : Addr) : DSp := fun ds M _ Q => ∃ F : List Cell, ds = [.tup (F.map cellD)] ∧ Good F ∧ M tP = some (.tab lamQ) ∧ ∀ p, M p = none → Q (.ref p) (mup M p (.lst (runsD F)))
mutual
/-- ints, texts, tuples of them -/
def plainD : Nat → D → Bool
  | _, .int _ => true
  | _, .str x => x.cps.all (· < 0x110000)
  | n + 1, .tup ds => decide (ds.length ≤ 100000) && plainDs n ds
  | _, _ => false
def plainDs : Nat → List D → Bool
  | _, [] => true
  | n, d :: ds => plainD n d && plainDs n ds
end
def sp_same (n : Nat) : DSp := fun ds M _ Q => ∃ x y, ds = [x, y] ∧ plainD n x = true ∧ plainD n y = true ∧ n ≤ 20 ∧ Q (.bl (decide (x = y))) M
def sp_law (tP : Addr) : DSp := fun ds M _ Q => ∃ ns : List Int, ds = [.rol (ns.map .int)] ∧ ns.length ≤ 63 ∧ M tP = some (.tab lamQ) ∧ ∀ M', Q (.bl true) M'
end DL
namespace DL
open PySem PySem.Spec PyProof.Rows L2
theorem small {n : Nat} (h : n ≤ 100000 := by decide) : n ≤ sizeLine := Nat.le_trans h (by decide)
theorem ln_step_of : ∀ ds M E Q, sp_step_of ds M E Q → ds.length = 1 := fun ds M E Q ⟨_, h, _⟩ => by rw [h]; rfl
theorem lw_step_of : ∀ ds M E Q, sp_step_of ds M E Q → rd_step_of (dEnds Q E) (dStart ["word"] ds) M := by
  rintro ds M E Q ⟨dn, rfl, h⟩
  simp only [rd_step_of, dStart, s_seq, s_go, s_if, s_b, s_bin, s_var, s_c, s_ret, s_tup, s_cons, s_nil, s_skip, List.map_cons, List.map_nil, List.cons_append, List.getElem?_cons_zero]
  cases dn with
  | true =>
    refine eq_val (by decide +kernel) (by decide +kernel) ?_
    simp only [wordS, if_true, decide_true]
    exact ⟨small, endQ h⟩
  | false =>
    refine eq_val (by decide +kernel) (by decide +kernel) ?_
    have e : decide (D.str (wordS false) = gv_DOWN) = false := by decide +kernel
    simp only [if_true, e]
    exact ⟨small, endQ h⟩
theorem ln_moved_on : ∀ ds M E Q, sp_moved_on ds M E Q → ds.length = 3 := fun ds M E Q ⟨_, _, _, h, _⟩ => by rw [h]; rfl
theorem lw_moved_on : ∀ ds M E Q, sp_moved_on ds M E Q → rd_moved_on (dEnds Q E) (dStart ["cell", "step", "many"] ds) M := by
  rintro ds M E Q ⟨c, s, m, rfl, h1, h2, h⟩
  simp [s_go, rd_moved_on, dStart, cellD]
  exact ⟨mulOk_l h1 h2, mulOk_l h1 h2, small, endQ h⟩
theorem ln_cell_at : ∀ ds M E Q, sp_cell_at ds M E Q → ds.length = 2 := fun ds M E Q ⟨_, _, h, _⟩ => by rw [h]; rfl
theorem lw_cell_at : ∀ ds M E Q, sp_cell_at ds M E Q → rd_cell_at (dEnds Q E) (dStart ["_law_script", "_law_k"] ds) M := by
  rintro ds M E Q ⟨ns, k, rfl, h1, h2, h⟩
  simp [s_go, rd_cell_at, dStart]
  by_cases hk : k < ns.length
  · have hk2 : k.toNat < ns.length := by omega
    rw [if_pos hk, atI_of (x := .int ns[k.toNat]) h1 (by rw [List.getElem?_map, List.getElem?_eq_getElem hk2]; rfl)]
    exact endQ (h _)
  · rw [if_neg hk]
    exact endQ (h _)
theorem mulOk_w {i j : Int} (h : i.natAbs.log2 + j.natAbs.log2 < 1000000) : mulOk i j := .inr h
theorem ln_hand : ∀ ds M E Q, sp_hand ds M E Q → ds.length = 2 := fun ds M E Q ⟨_, _, h, _⟩ => by rw [h]; rfl
theorem lw_hand : ∀ ds M E Q, sp_hand ds M E Q → rd_hand sp_cell_at (dEnds Q E) (dStart ["_law_script", "_law_k", "_law_cell", "_law_bound", "_law_seed"] ds) M := by
  rintro ds M E Q ⟨ns, k, rfl, h1, h2, h⟩
  simp [s_go, rd_hand, dStart, sp_cell_at]
  refine ⟨ns, k, ⟨rfl, rfl⟩, h1, by omega, fun i => ⟨mulOk_w (by decide +kernel), mulOk_w (by decide +kernel), mulOk_l (by decide) (by decide), mulOk_r (by omega) (by omega), mulOk_r (by decide) (by decide), ?_, small, fun p hp => endQ (h (_, _, _) p hp)⟩⟩
  split
  · exact mulOk_r (by decide) (by decide)
  · exact mulOk_r (by decide) (by decide)
theorem ln_pick : ∀ ds M E Q, sp_pick ds M E Q → ds.length = 2 := fun ds M E Q ⟨_, _, _, h, _⟩ => by rw [h]; rfl
theorem lw_pick : ∀ ds M E Q, sp_pick ds M E Q → rd_pick (dEnds Q E) (dStart ["_law_hand_here", "_law_many", "_law_digit"] ds) M := by
  rintro ds M E Q ⟨hh, n, ⟨a, b, c⟩, rfl, hm, h1, h2, h⟩
  simp [s_go, rd_pick, dStart, hm, handD]
  split
  · exact ⟨h1, ⟨h1, by omega⟩, endQ (h _ (a / n, b, c) (Int.emod_nonneg _ (by omega)) (Int.emod_lt_of_pos _ h1))⟩
  · refine ⟨mulOk_r (by decide) (by decide), mulOk_l (by decide) (by decide), mulOk_l ?_ ?_, h1, ?_⟩
    · have := Int.emod_nonneg (b * 48271 + 12345 + 7919 * (c + 1)) (b := 2147483647) (by decide)
      omega
    · have := Int.emod_lt_of_pos (b * 48271 + 12345 + 7919 * (c + 1)) (b := 2147483647) (by decide)
      omega
    · rw [mup_mup]
      exact endQ (h _ (a, _, c + 1) (Int.emod_nonneg _ (by omega)) (Int.emod_lt_of_pos _ h1))
/-! ### the order of runs -/
end DL
namespace DL
open PySem PySem.Spec PyProof.Rows L2
/-! ### sorted data -/
theorem tok_inj {x y : PyData} (h : PySem.W.alike x y = true) (e : PySem.W.keyToks x = PySem.W.keyToks y) : PyData.eqv x y = true := by
  cases q : PyData.eqv x y with
  | true => rfl
  | false =>
    have h2 := (PySem.W.toks_eqv x y h).2 q [] [Sum.inl 0]
    rw [e] at h2
    have e1 : PyProof.Rows.lexLt PyProof.Rows.itemOrd (PySem.W.keyToks y ++ []) (PySem.W.keyToks y ++ [Sum.inl 0]) = true := by
      rw [PySem.W.lex_pre]
      rfl
    rw [e1, PyProof.Rows.lex_irrefl] at h2
    cases h2
theorem le_antisymm {x y : D} {n : Nat} (hx : okD n x = true) (hy : okD n y = true) (h : PySem.W.alike (pyT x) (pyT y) = true) (h1 : PySem.W.dataLe false pyT x y = true) (h2 : PySem.W.dataLe false pyT y x = true) : x = y := by
  have e : PySem.W.keyToks (pyT x) = PySem.W.keyToks (pyT y) := by
    have h1 : (!PyProof.Rows.lexLt PyProof.Rows.itemOrd (PySem.W.keyToks (pyT y)) (PySem.W.keyToks (pyT x))) = true := h1
    have h2 : (!PyProof.Rows.lexLt PyProof.Rows.itemOrd (PySem.W.keyToks (pyT x)) (PySem.W.keyToks (pyT y))) = true := h2
    rw [Bool.not_eq_true'] at h1 h2
    exact PyProof.Rows.lex_total _ _ h2 h1
  have q := tok_inj h e
  rw [eqv_okD x y n n hx hy] at q
  exact of_decide_eq_true q
theorem sortD_perm (l : List D) : (sortD l).Perm l := List.mergeSort_perm _ _
theorem sortD_pw (l : List D) : (sortD l).Pairwise fun a b => PySem.W.dataLe false pyT a b = true := by
  have t := PySem.W.sortLe_total (PyProof.Rows.listOrd PyProof.Rows.itemOrd) false (fun b => PySem.W.keyToks (pyT b))
  exact List.pairwise_mergeSort (fun a b c h1 h2 => t.trans a b c h1 h2) (fun a b => by
    rcases t.total a b with h | h
    · exact Bool.or_eq_true_iff.mpr (.inl h)
    · exact Bool.or_eq_true_iff.mpr (.inr h)) l
theorem sortD_eq {l m : List D} {n : Nat} (hp : l.Perm m) (ok : ∀ d ∈ l, okD n d = true) (al : PySem.W.AllAlike (l.map pyT)) : sortD l = sortD m := by
  refine List.Perm.eq_of_pairwise (le := fun a b => PySem.W.dataLe false pyT a b = true) (fun a b ha hb h1 h2 => ?_) (sortD_pw l) (sortD_pw m) ((sortD_perm l).trans (hp.trans (sortD_perm m).symm))
  have ha' : a ∈ l := (sortD_perm l).mem_iff.mp ha
  have hb' : b ∈ l := hp.mem_iff.mpr ((sortD_perm m).mem_iff.mp hb)
  exact le_antisymm (ok a ha') (ok b hb') (al _ (List.mem_map_of_mem ha') _ (List.mem_map_of_mem hb')) h1 h2
/-! ### runs as data -/
theorem okD_cell (c : Cell) (n : Nat) : okD (n + 1) (cellD c) = true := by simp [cellD, okD, okDs]
theorem okD_word (dn : Bool) (n : Nat) : okD n (.str (wordS dn)) = true := by
  cases dn <;> cases n <;> (simp only [okD]; decide +kernel)
theorem okD_run (dn : Bool) (r : Cell × Nat) (n : Nat) : okD (n + 2) (runD dn r) = true := by
  simp only [runD, okD, okDs, okD_cell]
  have := okD_word dn (n + 1)
  simp only [okD] at this
  rw [this]
  rfl
theorem alike_run (dn dn' : Bool) (r r' : Cell × Nat) : PySem.W.alike (pyT (runD dn r)) (pyT (runD dn' r')) = true := by
  simp [runD, cellD, pyT, pyTs, PySem.W.alike, PySem.W.alikeAll]
def IsRun (d : D) : Prop := ∃ dn r, d = runD dn r
theorem runs_ok {l : List D} (h : ∀ d ∈ l, IsRun d) (hl : l.length ≤ 100000) : sortC l := by
  refine ⟨(okDs_iff _ _).mpr fun d hd => ?_, small hl, fun a ha b hb => ?_, .inl fun a ha => ?_⟩
  · obtain ⟨dn, r, rfl⟩ := h d hd
    exact okD_run dn r 48
  · obtain ⟨x, hx, rfl⟩ := List.mem_map.mp ha
    obtain ⟨y, hy, rfl⟩ := List.mem_map.mp hb
    obtain ⟨dn, r, rfl⟩ := h x hx
    obtain ⟨dn', r', rfl⟩ := h y hy
    exact alike_run dn dn' r r'
  · obtain ⟨x, hx, rfl⟩ := List.mem_map.mp ha
    obtain ⟨dn, r, rfl⟩ := h x hx
    exact ⟨_, _, rfl⟩
theorem runs_sort {l m : List D} (h : ∀ d ∈ l, IsRun d) (hp : l.Perm m) : sortD l = sortD m := by
  refine sortD_eq (n := 2) hp (fun d hd => ?_) fun a ha b hb => ?_
  · obtain ⟨dn, r, rfl⟩ := h d hd
    exact okD_run dn r 0
  · obtain ⟨x, hx, rfl⟩ := List.mem_map.mp ha
    obtain ⟨y, hy, rfl⟩ := List.mem_map.mp hb
    obtain ⟨dn, r, rfl⟩ := h x hx
    obtain ⟨dn', r', rfl⟩ := h y hy
    exact alike_run dn dn' r r'
theorem along_run {F : List Cell} {dn : Bool} : ∀ d ∈ (alongL F dn).map (runD dn), IsRun d := fun d hd => by
  obtain ⟨r, _, rfl⟩ := List.mem_map.mp hd
  exact ⟨dn, r, rfl⟩
theorem along_len (F : List Cell) (dn : Bool) : (alongL F dn).length ≤ F.length := by
  unfold alongL
  rw [List.length_map]
  exact List.length_filter_le _ _
theorem grp_perm (F : List Cell) (dn : Bool) : (alongL F dn).Perm (grpL F dn) := by
  unfold alongL grpL
  exact ((List.mergeSort_perm F (kLe dn)).symm.filter _).map _
/-- both laws' lists of runs -/
theorem runsD_grp (F : List Cell) : sortD ((grpL F true).map (runD true) ++ (grpL F false).map (runD false)) = runsD F := by
  refine (runs_sort (fun d hd => ?_) (((grp_perm F true).map _).append ((grp_perm F false).map _))).symm
  rcases List.mem_append.mp hd with h | h
  · exact along_run d h
  · exact along_run d h
/-! ### the small heap -/
theorem mup_none {M : MH} {a b : Addr} {o : MO} (h : mup M a o b = none) : b ≠ a ∧ M b = none := by
  unfold mup at h
  split at h
  · cases h
  · rename_i n
    exact ⟨n, h⟩
@[simp] theorem mup_self {M : MH} {a : Addr} {o : MO} : mup M a o a = some o := mup_same
/-! ### pure comprehensions -/
theorem comp_map {g : DTG} {tt : DTT} {te : DTE} {keep : MH → Prop} {τ : DSt} {Q : List D → MH → Prop} {M : MH} (f : D → D) (hk : keep M) : ∀ (ds acc : List D),
    (∀ d ∈ ds, ∀ (R R' : DVK), R (f d) M → g d τ M EF fun τ2 M2 => tt τ2 M2 EF fun b M3 => if b = true then te τ2 M3 EF R else R' .non M3) →
    acc.length + ds.length ≤ sizeLine → Q (acc ++ ds.map f) M → dComp1 g tt te keep τ Q ds acc M
  | [], acc, _, _, q => ⟨hk, by simpa using q⟩
  | d :: ds, acc, h, hl, q => by
    refine ⟨hk, h d List.mem_cons_self (fun y M4 => acc.length < sizeLine ∧ ∃ M5, MLe M5 M4 ∧ dComp1 g tt te keep τ Q ds (acc ++ [y]) M5) (fun _ M3 => ∃ M5, MLe M5 M3 ∧ dComp1 g tt te keep τ Q ds acc M5) ⟨?_, M, MLe.refl M, ?_⟩⟩
    · rw [List.length_cons] at hl; omega
    · refine comp_map f hk ds (acc ++ [f d]) (fun x hx => h x (List.mem_cons_of_mem _ hx)) ?_ ?_
      · rw [List.length_append, List.length_singleton]; rw [List.length_cons] at hl; omega
      · rw [List.append_assoc]; exact q
/-! ### dicts -/
theorem look_map {k k' v : D} : ∀ {l : List (D × D)}, (look k (l.map fun p => if p.1 = k' then (p.1, v) else p)).isSome = (look k l).isSome
  | [] => rfl
  | (a, x) :: r => by
    rw [List.map_cons]
    by_cases h : a = k'
    · simp only [h, if_true, look]
      split
      · rfl
      · exact look_map
    · simp only [h, if_false, look]
      split
      · rfl
      · exact look_map
theorem look_app {k : D} : ∀ {l m : List (D × D)}, (look k (l ++ m)).isSome = ((look k l).isSome || (look k m).isSome)
  | [], m => by simp [look]
  | (a, x) :: r, m => by
    rw [List.cons_append]
    simp only [look]
    split
    · simp
    · exact look_app
theorem look_put {k k' v : D} {l : List (D × D)} : (look k (putD k' v l)).isSome = (decide (k = k') || (look k l).isSome) := by
  unfold putD
  split
  · rename_i h
    rw [look_map]
    by_cases e : k = k'
    · subst e; simp [h]
    · simp [e]
  · rw [look_app, Bool.or_comm]
    congr 1
    simp only [look]
    by_cases e : k' = k
    · simp [e]
    · have : ¬ k = k' := fun z => e z.symm
      simp [e, this]
theorem look_fill {k : D} : ∀ {kvs acc : List (D × D)}, (look k (fillD kvs acc)).isSome = (decide (k ∈ kvs.map (·.1)) || (look k acc).isSome)
  | [], acc => by simp [fillD]
  | p :: kvs, acc => by
    show (look k (fillD kvs (putD p.1 p.2 acc))).isSome = _
    rw [look_fill, look_put]
    by_cases e : k = p.1
    · simp [e]
    · by_cases h : k ∈ kvs.map (·.1)
      · simp [h]
      · simp only [List.map_cons, List.mem_cons, e, h, false_or, decide_false, Bool.false_or]
theorem keyT_cell (c : Cell) : keyT (cellD c) = true := by simp [cellD, keyT, nkOf, nksOf, NestedKey.depth, NestedKey.depthAll]
theorem cellD_inj {c c' : Cell} (h : cellD c = cellD c') : c = c' := by
  unfold cellD at h
  injection h with h
  injection h with h1 h
  injection h with h2 h
  injection h1 with h1
  injection h2 with h2
  exact Prod.ext h1 h2
end DL
namespace DL
open PySem PySem.Spec PyProof.Rows L2
section
variable {M : MH} {E : DXK} {Q : DVK} {F : List Cell}
theorem i_step_of (dn : Bool) (h : Q (cellD (stepOf dn)) M) : sp_step_of [.str (wordS dn)] M E Q := ⟨dn, rfl, h⟩
theorem i_moved_on {c s : Cell} {m : Int} (h1 : -(2 ^ 64) < m) (h2 : m < 2 ^ 64) (h : Q (cellD (moved c s m)) M) : sp_moved_on [cellD c, cellD s, .int m] M E Q := ⟨c, s, m, rfl, h1, h2, h⟩
theorem i_runs_along (dn : Bool) (G : Good F) (h : ∀ p, M p = none → Q (.ref p) (mup M p (.lst ((alongL F dn).map (runD dn))))) : sp_runs_along [.tup (F.map cellD), .str (wordS dn)] M E Q := ⟨F, dn, rfl, G, h⟩
theorem i_runs (G : Good F) (h : Q (.tup (runsD F)) M) : sp_runs [.tup (F.map cellD)] M E Q := ⟨F, rfl, G, h⟩
theorem i_hand {ns : List Int} {k : Int} (h1 : 0 ≤ k) (h2 : k < 2 ^ 62) (h : ∀ s p, M p = none → Q (.ref p) (mup M p (handD s))) : sp_hand [.rol (ns.map .int), .int k] M E Q := ⟨ns, k, rfl, h1, h2, h⟩
theorem i_pick {hh : Addr} {n : Int} {s : Hand} (hm : M hh = some (handD s)) (h1 : 0 < n) (h2 : n < 2 ^ 64) (h : ∀ v s', 0 ≤ v → v < n → Q (.int v) (mup M hh (handD s'))) : sp_pick [.ref hh, .int n] M E Q := ⟨hh, n, s, rfl, hm, h1, h2, h⟩
theorem i_grown {hh : Addr} {n : Int} {s : Hand} (hm : M hh = some (handD s)) (h1 : 0 < n) (h2 : n ≤ 100) (h : ∀ F s', Good F → Q (.tup (F.map cellD)) (mup M hh (handD s'))) : sp_grown [.ref hh, .int n] M E Q := ⟨hh, n, s, rfl, hm, h1, h2, h⟩
theorem i_floor {hh : Addr} {s : Hand} (hm : M hh = some (handD s)) (h : ∀ F s', Good F → Q (.tup (F.map cellD)) (mup M hh (handD s'))) : sp_floor [.ref hh] M E Q := ⟨hh, s, rfl, hm, h⟩
theorem i_runs_of {tP : Addr} (dn : Bool) (G : Good F) (ht : M tP = some (.tab lamQ)) (h : ∀ p, M p = none → Q (.ref p) (mup M p (.lst ((grpL F dn).map (runD dn))))) : sp_runs_of tP [.tup (F.map cellD), .str (wordS dn)] M E Q := ⟨F, dn, rfl, G, ht, h⟩
theorem i_all_runs {tP : Addr} (G : Good F) (ht : M tP = some (.tab lamQ)) (h : ∀ p, M p = none → Q (.ref p) (mup M p (.lst (runsD F)))) : sp_all_runs tP [.tup (F.map cellD)] M E Q := ⟨F, rfl, G, ht, h⟩
theorem i_same {n : Nat} {x y : D} (hx : plainD n x = true) (hy : plainD n y = true) (hn : n ≤ 20) (h : Q (.bl (decide (x = y))) M) : sp_same n [x, y] M E Q := ⟨x, y, rfl, hx, hy, hn, h⟩
end
theorem ln_runs_along : ∀ ds M E Q, sp_runs_along ds M E Q → ds.length = 2 := fun ds M E Q ⟨_, _, h, _⟩ => by rw [h]; rfl
/-- the while of runs_along -/
theorem along_while {F : List Cell} {dn : Bool} {p1 p2 : Addr} {c : Cell} {x0 x1 : Option D} {kvs : List (D × D)} {M : MH} {Dd : DEnds} (hM : M p1 = some (.dcn kvs)) (hk : ∀ x, (look (cellD x) kvs).isSome = decide (x ∈ F))
    : ∀ (f m : Nat), m + f ≤ 1000 → moved c (stepOf dn) ((m + f : Nat) : Int) ∉ F → (∀ m' : Nat, m' = lenN F (stepOf dn) c f m → Dd.nx [x0, x1, some (cellD (stepOf dn)), some (.ref p1), some (.ref p2), some (cellD c), some (.int m')] M) →
      dWh (dB (dBin (inR true) (dCall sp_moved_on (dCons (dVar 5) (dCons (dVar 2) (dCons (dVar 6) dNil)))) (dVar 3))) (dAug 6 (dC (.int 1)) iaddR) Dd (f + 1) [x0, x1, some (cellD (stepOf dn)), some (.ref p1), some (.ref p2), some (cellD c), some (.int m)] M
  | f, m, hb, hn, h => by
    unfold dWh
    simp [s_go]
    refine i_moved_on (by omega) (by omega) ?_
    simp [hM]
    refine ⟨keyT_cell _, ?_⟩
    simp only [yes, if_true, hk]
    by_cases e : moved c (stepOf dn) m ∈ F
    · rw [decide_eq_true e, if_pos rfl]
      cases f with
      | zero => exact absurd e hn
      | succ f =>
        refine Up.of (along_while hM hk f (m + 1) (by omega) (by rw [show m + 1 + f = m + (f + 1) by omega]; exact hn) fun m' hm' => h m' ?_)
        rw [hm', lenN, if_pos e]
    · rw [decide_eq_false e, if_neg Bool.false_ne_true]
      refine h m ?_
      cases f with
      | zero => rfl
      | succ f => rw [lenN, if_neg e]
theorem far_out {F : List Cell} {dn : Bool} {c : Cell} (h : ∀ c ∈ F, okCell c) (hc : okCell c) : moved c (stepOf dn) 41 ∉ F := fun z => by
  have h1 := h _ z
  unfold okCell moved stepOf at *
  cases dn <;> simp at h1 <;> omega
theorem lw_runs_along : ∀ ds M E Q, sp_runs_along ds M E Q → rd_runs_along sp_moved_on sp_step_of (dEnds Q E) (dStart ["floor", "word", "step", "free", "some", "cell", "many"] ds) M := by
  rintro ds M E Q ⟨F, dn, rfl, G, h⟩
  simp [s_go, rd_runs_along, dStart]
  refine i_step_of dn ?_
  refine comp_map (M := M) (fun d => .tup [d, .bl true]) trivial _ [] (fun d hd R R' hR => ?_) ?_ ?_
  · simp [wipeD]
    exact ⟨small, hR⟩
  · rw [List.length_nil, List.length_map]
    have := G.len
    have := small (n := 100)
    omega
  · intro p0 h0
    simp [s_go]
    refine ⟨F.map fun c => (cellD c, .bl true), ?_, ?_, ?_, ?_⟩
    · rw [List.map_map]; rfl
    · intro a b c1
      obtain ⟨c, _, e⟩ := List.mem_map.mp c1
      cases e
      exact keyT_cell c
    · exact Nat.le_trans G.len small
    · intro p1 h1 p2 h2
      obtain ⟨n10, h1⟩ := mup_none h1
      obtain ⟨n21, h2⟩ := mup_none h2
      obtain ⟨n20, h2⟩ := mup_none h2
      have hlook : ∀ x, (look (cellD x) (fillD (F.map fun c => (cellD c, .bl true)) [])).isSome = decide (x ∈ F) := fun x => by
        rw [look_fill, List.map_map]
        have e : (cellD x ∈ F.map ((fun p : D × D => p.1) ∘ fun c => (cellD c, D.bl true))) ↔ x ∈ F := by
          rw [List.mem_map]
          exact ⟨fun ⟨c, hc, e⟩ => by rw [← cellD_inj (show cellD c = cellD x from e)]; exact hc, fun h => ⟨x, h, rfl⟩⟩
        rw [Bool.eq_iff_iff]
        simp only [Bool.or_eq_true, decide_eq_true_eq, look, Option.isSome_none, Bool.false_eq_true, or_false]
        exact e
      generalize fillD (F.map fun c => (cellD c, D.bl true)) [] = kvs at hlook
      have key : ∀ (X : MO) (r done : List Cell) (o5 o6 : Option D), F = done ++ r →
          dFor1 (dgName 5) (dIf (dB (dBin (inR false) (dCall sp_moved_on (dCons (dVar 5) (dCons (dVar 2) (dCons (dNeg (dC (.int 1))) dNil)))) (dVar 3))) (dSeq (dAsg (dC (.int 1)) (dgName 6))
            (dSeq (dWhile (dB (dBin (inR true) (dCall sp_moved_on (dCons (dVar 5) (dCons (dVar 2) (dCons (dVar 6) dNil)))) (dVar 3))) (dAug 6 (dC (.int 1)) iaddR))
            (dDrop (dBM "list" appendR (dVar 4) (dCons (dTup (dCons (dVar 1) (dCons (dVar 5) (dCons (dVar 6) dNil)))) dNil))))) dSkip)
            { nx := dRet (dVar 4) (dEnds Q E), rt := (dEnds Q E).rt, bk := fun _ _ => False, ct := fun _ _ => False, xx := (dEnds Q E).xx } (fun _ => True) (r.map cellD)
            [some (.tup (F.map cellD)), some (.str (wordS dn)), some (cellD (stepOf dn)), some (.ref p1), some (.ref p2), o5, o6]
            (mup (mup (mup M p0 X) p1 (.dcn kvs)) p2 (.lst (((done.filter fun c => decide (moved c (stepOf dn) (-1) ∉ F)).map fun c => (c, lenN F (stepOf dn) c 40 1)).map (runD dn)))) := by
        intro X r
        induction r with
        | nil =>
          intro done o5 o6 e
          rw [List.append_nil] at e
          subst e
          refine ⟨trivial, ?_⟩
          have hh := h p2 h2
          unfold alongL at hh
          simp at hh ⊢
          exact ⟨_, .up (.new (.new (MLe.refl M) h0) h1), hh⟩
        | cons c r ih =>
          intro done o5 o6 e
          have hc : c ∈ F := by rw [e]; simp
          have hlen : done.length ≤ 100 := by
            have := G.len
            rw [e, List.length_append] at this
            omega
          have e2 : F = (done ++ [c]) ++ r := by rw [e]; simp
          refine ⟨trivial, ?_⟩
          simp [s_go]
          refine i_moved_on (by decide) (by decide) ?_
          have n12 : p1 ≠ p2 := fun z => n21 z.symm
          simp [mup_ne n12]
          refine ⟨keyT_cell _, ?_⟩
          simp only [yes, hlook]
          by_cases hq : moved c (stepOf dn) (-1) ∈ F
          · rw [decide_eq_true hq]
            simp [s_go]
            refine Up.of ?_
            have := ih (done ++ [c]) (some (cellD c)) o6 e2
            rw [List.filter_append, List.filter_cons, if_neg (by simpa using hq), List.filter_nil, List.append_nil] at this
            simpa using this
          · rw [decide_eq_false hq]
            simp [s_go]
            refine ⟨41, ?_⟩
            have hb : moved c (stepOf dn) ((1 + 40 : Nat) : Int) ∉ F := far_out G.ok (G.ok c hc)
            refine along_while (kvs := kvs) (by rw [mup_ne n12]; exact mup_same) hlook 40 1 (by omega) hb fun m' hm' => ?_
            simp [s_go]
            refine ⟨small, ?_, Up.of ?_⟩
            · refine Nat.lt_of_le_of_lt (List.length_filter_le _ _) ?_
              exact Nat.lt_of_le_of_lt hlen (by decide)
            · have := ih (done ++ [c]) (some (cellD c)) (some (.int m')) e2
              rw [List.filter_append, List.filter_cons, if_pos (by simpa using hq), List.filter_nil] at this
              rw [mup_mup]
              simp only [List.map_append, List.map_cons, List.map_nil] at this
              subst hm'
              simpa [runD] using this
      exact key _ F [] none none rfl
theorem ln_runs : ∀ ds M E Q, sp_runs ds M E Q → ds.length = 1 := fun ds M E Q ⟨_, h, _⟩ => by rw [h]; rfl
theorem lw_runs : ∀ ds M E Q, sp_runs ds M E Q → rd_runs sp_runs_along (dEnds Q E) (dStart ["floor"] ds) M := by
  rintro ds M E Q ⟨F, rfl, G, h⟩
  simp [s_go, rd_runs, dStart]
  refine i_runs_along true G fun p1 h1 => i_runs_along false G fun p2 h2 => ?_
  obtain ⟨n21, h2⟩ := mup_none h2
  have n12 : p1 ≠ p2 := fun z => n21 z.symm
  have l1 := along_len F true
  have l2 := along_len F false
  have := G.len
  simp [mup_ne n12]
  refine ⟨Nat.le_trans (show _ ≤ 100000 by omega) small, fun p3 h3 => ⟨runs_ok (fun d hd => ?_) ?_, fun p4 h4 => ?_⟩⟩
  · rcases List.mem_append.mp hd with hd | hd
    · exact along_run d hd
    · exact along_run d hd
  · rw [List.length_append, List.length_map, List.length_map]
    omega
  · obtain ⟨n32, h3⟩ := mup_none h3
    obtain ⟨n31, h3⟩ := mup_none h3
    obtain ⟨n43, h4⟩ := mup_none h4
    obtain ⟨n42, h4⟩ := mup_none h4
    obtain ⟨n41, h4⟩ := mup_none h4
    exact ⟨M, .new (.new (.new (.new (MLe.refl M) h1) h2) h3) h4, h⟩
theorem ln_all_runs {tP : Addr} : ∀ ds M E Q, sp_all_runs tP ds M E Q → ds.length = 1 := fun ds M E Q ⟨_, h, _⟩ => by rw [h]; rfl
theorem lw_all_runs {tP : Addr} : ∀ ds M E Q, sp_all_runs tP ds M E Q → rd_all_runs (sp_runs_of tP) (dEnds Q E) (dStart ["_law_floor_here"] ds) M := by
  rintro ds M E Q ⟨F, rfl, G, ht, h⟩
  simp [s_go, rd_all_runs, dStart]
  refine i_runs_of true G ht fun p1 h1 => i_runs_of false G ?_ fun p2 h2 => ?_
  · rw [mup_ne (fun z => by rw [z, h1] at ht; cases ht)]
    exact ht
  obtain ⟨n21, h2⟩ := mup_none h2
  have n12 : p1 ≠ p2 := fun z => n21 z.symm
  have l1 := (grp_perm F true).length_eq
  have l2 := (grp_perm F false).length_eq
  have l3 := along_len F true
  have l4 := along_len F false
  have := G.len
  simp [mup_ne n12]
  refine ⟨Nat.le_trans (show _ ≤ 100000 by omega) small, fun p3 h3 => ⟨runs_ok (fun d hd => ?_) ?_, fun p4 h4 => ?_⟩⟩
  · rcases List.mem_append.mp hd with hd | hd <;> (obtain ⟨r, _, rfl⟩ := List.mem_map.mp hd; exact ⟨_, r, rfl⟩)
  · rw [List.length_append, List.length_map, List.length_map]
    omega
  · obtain ⟨n32, h3⟩ := mup_none h3
    obtain ⟨n31, h3⟩ := mup_none h3
    obtain ⟨n43, h4⟩ := mup_none h4
    obtain ⟨n42, h4⟩ := mup_none h4
    obtain ⟨n41, h4⟩ := mup_none h4
    refine ⟨_, .up (.new (.new (.new (MLe.refl M) h1) h2) h3), ?_⟩
    rw [runsD_grp]
    exact h p4 h4
end DL
namespace DL
open PySem PySem.Spec PyProof.Rows L2
/-- what the small heap told but at h, it tells -/
def Ext (h : Addr) (M0 M : MH) : Prop := ∀ a o, a ≠ h → M0 a = some o → M a = some o
section
variable {h p : Addr} {M0 M : MH} {o : MO}
theorem Ext.refl (h : Addr) (M : MH) : Ext h M M := fun _ _ _ e => e
theorem Ext.puth (x : Ext h M0 M) : Ext h M0 (mup M h o) := fun a u n e => by rw [mup_ne n]; exact x a u n e
theorem Ext.new (x : Ext h M0 M) (hp : M p = none) (n : p ≠ h) : Ext h M0 (mup M p o) := fun a u na e => by
  have hb : a ≠ p := fun z => by subst z; rw [x a u na e] at hp; cases hp
  rw [mup_ne hb]; exact x a u na e
theorem Ext.put (x : Ext h M0 M) (hp : M0 p = none) : Ext h M0 (mup M p o) := fun a u na e => by
  have hb : a ≠ p := fun z => by subst z; rw [hp] at e; cases e
  rw [mup_ne hb]; exact x a u na e
theorem Ext.mle (x : Ext h M0 M) (hh : M h = some o) : MLe (mup M0 h o) M := fun a u e => by
  by_cases ha : a = h
  · subst ha; rw [mup_same] at e; cases e; exact hh
  · rw [mup_ne ha] at e; exact x a u ha e
theorem fresh_ne {M : MH} {a b : Addr} {o : MO} (h1 : M a = some o) (h2 : M b = none) : b ≠ a := fun z => by rw [z, h1] at h2; cases h2
end
theorem ln_grown : ∀ ds M E Q, sp_grown ds M E Q → ds.length = 2 := fun ds M E Q ⟨_, _, _, h, _⟩ => by rw [h]; rfl
theorem okD_cells {cs : List Cell} {n : Nat} : okDs (n + 1) (cs.map cellD) = true := (okDs_iff _ _).mpr fun d hd => by
  obtain ⟨c, _, rfl⟩ := List.mem_map.mp hd
  exact okD_cell c n
theorem mem_cells {c : Cell} {cs : List Cell} : cellD c ∈ cs.map cellD ↔ c ∈ cs := by
  rw [List.mem_map]
  exact ⟨fun ⟨x, hx, e⟩ => by rw [← cellD_inj e]; exact hx, fun h => ⟨c, h, rfl⟩⟩
def unCell : D → Cell
  | .tup [.int a, .int b] => (a, b)
  | _ => (0, 0)
theorem unCell_cell (c : Cell) : unCell (cellD c) = c := rfl
theorem alike_cell (c c' : Cell) : PySem.W.alike (pyT (cellD c)) (pyT (cellD c')) = true := by
  simp [cellD, pyT, pyTs, PySem.W.alike, PySem.W.alikeAll]
theorem cells_sortC {cs : List Cell} (h : cs.length ≤ 100000) : sortC (cs.map cellD) := by
  refine ⟨okD_cells (n := 49), by rw [List.length_map]; exact small h, fun a ha b hb => ?_, .inl fun a ha => ?_⟩
  · obtain ⟨x, hx, rfl⟩ := List.mem_map.mp ha
    obtain ⟨y, hy, rfl⟩ := List.mem_map.mp hb
    obtain ⟨c, _, rfl⟩ := List.mem_map.mp hx
    obtain ⟨c', _, rfl⟩ := List.mem_map.mp hy
    exact alike_cell c c'
  · obtain ⟨x, hx, rfl⟩ := List.mem_map.mp ha
    obtain ⟨c, _, rfl⟩ := List.mem_map.mp hx
    exact ⟨_, _, rfl⟩
theorem cells_sorted (cs : List Cell) : ∃ F : List Cell, F.Perm cs ∧ sortD (cs.map cellD) = F.map cellD := by
  refine ⟨(sortD (cs.map cellD)).map unCell, ?_, ?_⟩
  · have h := (sortD_perm (cs.map cellD)).map unCell
    rw [List.map_map, show (unCell ∘ cellD) = id from funext unCell_cell, List.map_id] at h
    exact h
  · rw [List.map_map]
    refine (List.map_id _).symm.trans (List.map_congr_left fun d hd => ?_)
    obtain ⟨c, _, rfl⟩ := List.mem_map.mp ((sortD_perm _).mem_iff.mp hd)
    rfl
theorem Good.perm {F cs : List Cell} (G : Good cs) (h : F.Perm cs) : Good F := ⟨h.nodup_iff.mpr G.nd, by rw [h.length_eq]; exact G.len, fun c hc => G.ok c (h.mem_iff.mp hc)⟩
theorem cells_at {cs : List Cell} {v : Int} (h0 : 0 ≤ v) (h1 : v < cs.length) : ∃ c ∈ cs, atI (cs.map cellD) v = some (cellD c) := by
  have hl : v.toNat < cs.length := by omega
  exact ⟨cs[v.toNat], List.getElem_mem hl, atI_of h0 (by rw [List.getElem?_map, List.getElem?_eq_getElem hl]; rfl)⟩
theorem cells_last {cs : List Cell} (h : cs ≠ []) : ∃ c ∈ cs, atI (cs.map cellD) (-1) = some (cellD c) :=
  ⟨cs.getLast h, List.getLast_mem h, atI_lastOf (by rw [List.getLast?_map, List.getLast?_eq_some_getLast h]; rfl)⟩
theorem lw_grown : ∀ ds M E Q, sp_grown ds M E Q → rd_grown sp_pick (dEnds Q E) (dStart ["_law_hand_here", "_law_many", "_law_some", "_law_turn", "_law_row", "_law_column", "_law_down", "_law_right", "_law_cell"] ds) M := by
  rintro ds M E Q ⟨hh, n, s, rfl, hm, h1, h2, h⟩
  simp [rd_grown, dStart]
  refine i_pick hm (by decide) (by decide) fun v1 s1 v10 v11 => i_pick mup_same (by decide) (by decide) fun v2 s2 v20 v21 => ?_
  refine ⟨small, small, fun p hp => go ?_⟩
  simp
  refine ⟨mulOk_l (by decide) (by decide), by omega, by omega, ?_⟩
  have np : p ≠ hh := fresh_ne mup_same hp
  have hp0 : M p = none := (mup_none (mup_none hp).2).2
  have nh : hh ≠ p := fun z => np z.symm
  refine for_inv (fun _ τ M' => ∃ (cs : List Cell) (s' : Hand) (o3 o4 o5 o6 o7 o8 : Option D), τ = [some (.ref hh), some (.int n), some (.ref p), o3, o4, o5, o6, o7, o8] ∧ cs ≠ [] ∧ Good cs ∧ Ext hh M M' ∧ M' hh = some (handD s') ∧ M' p = some (.lst (cs.map cellD)))
    (fun d r τ M' N hI next => ⟨trivial, ?_⟩) (fun τ M' hI => ⟨trivial, ?_⟩) _ _ _ ?_
  · obtain ⟨cs, s', o3, o4, o5, o6, o7, o8, rfl, hne, G, hx, hm', hp'⟩ := hI
    have hlen : 0 < cs.length := List.length_pos_iff.mpr hne
    have hl2 := G.len
    simp [hp']
    refine i_pick hm' (by omega) (by omega) fun v3 s3 v30 v31 => ?_
    obtain ⟨c, hc, ec⟩ := cells_at v30 v31
    simp [mup_ne np, hp', ec]
    simp [cellD]
    refine go ?_
    simp
    refine i_pick mup_same (by decide) (by decide) fun v4 s4 v40 v41 => ?_
    rw [mup_mup]
    obtain ⟨c2, hc2, e2⟩ := cells_last hne
    by_cases e4 : v4 = 0
    case' pos =>
      simp [e4, mup_ne np, hp', e2]
      simp [cellD]
    case' neg =>
      simp [e4]
      obtain ⟨c2, hc2⟩ : ∃ c2, c2 = c := ⟨c, rfl⟩
      rw [← hc2]
      replace hc2 : c2 ∈ cs := by rw [hc2]; exact hc
    all_goals
      refine go ?_
      simp
      refine ⟨small, small, fun q hq => i_pick (s := s4) ?_ (by decide) (by decide) fun v5 s5 v50 v51 => ?_⟩
      · rw [mup_ne (fun z => by rw [← z, mup_same] at hq; cases hq)]
        exact mup_same
      have nq : q ≠ hh := fresh_ne mup_same hq
      have hq0 : M' q = none := (mup_none hq).2
      have nqp : p ≠ q := fun z => by rw [← z, hp'] at hq0; cases hq0
      obtain ⟨dc, -, e5⟩ := cells_at (cs := [(0, 1), (1, 0), (0, -1), (-1, 0)]) v50 (by simpa using v51)
      simp only [List.map_cons, List.map_nil, cellD] at e5
      simp [mup_ne nq, e5]
      have hm2 : mup (mup (mup M' hh (handD s4)) q (.lst [D.tup [.int 0, .int 1], .tup [.int 1, .int 0], .tup [.int 0, .int (-1)], .tup [.int (-1), .int 0]])) hh (handD s5) hh = some (handD s5) := mup_same
      have hp2 : mup (mup (mup M' hh (handD s4)) q (.lst [D.tup [.int 0, .int 1], .tup [.int 1, .int 0], .tup [.int 0, .int (-1)], .tup [.int (-1), .int 0]])) hh (handD s5) p = some (.lst (cs.map cellD)) := by
        rw [mup_ne np, mup_ne nqp, mup_ne np]; exact hp'
      have hx2 : Ext hh M (mup (mup (mup M' hh (handD s4)) q (.lst [D.tup [.int 0, .int 1], .tup [.int 1, .int 0], .tup [.int 0, .int (-1)], .tup [.int (-1), .int 0]])) hh (handD s5)) := (hx.puth.new hq nq).puth
      generalize mup (mup (mup M' hh (handD s4)) q (.lst [D.tup [.int 0, .int 1], .tup [.int 1, .int 0], .tup [.int 0, .int (-1)], .tup [.int (-1), .int 0]])) hh (handD s5) = M2 at hm2 hp2 hx2 ⊢
      refine go ?_
      simp
      refine ⟨small, go ?_⟩
      have hk1 : okD 50 (D.tup [.int (c2.1 + dc.1), .int (c2.2 + dc.2)]) = true := okD_cell (c2.1 + dc.1, c2.2 + dc.2) 49
      have hk2 : okDs 50 (cs.map cellD) = true := okD_cells (n := 49)
      have hmem : D.tup [.int (c2.1 + dc.1), .int (c2.2 + dc.2)] ∈ cs.map cellD ↔ (c2.1 + dc.1, c2.2 + dc.2) ∈ cs := mem_cells (c := (c2.1 + dc.1, c2.2 + dc.2))
      simp only [s_if, s_and, s_b, s_bin, s_var, s_c, s_in_dcn, s_chain, s_le, s_lt, s_cb, s_cons, s_nil, s_len_ref, s_ix_tup, atI_0, atI_1, s_skip, s_drop, s_bm, s_isty, s_append, List.getElem?_cons_succ, List.getElem?_cons_zero, hp2, hk1, hk2, yes, hmem, and_self, true_and, if_true, Bool.false_eq_true, if_false]
      have stay : Up N [some (.ref hh), some (.int n), some (.ref p), some d, some (.int c2.1), some (.int c2.2), some (.int dc.1), some (.int dc.2), some (.tup [.int (c2.1 + dc.1), .int (c2.2 + dc.2)])] M2 :=
        Up.of (next _ _ ⟨cs, s5, _, _, _, _, _, _, rfl, hne, G, hx2, hm2, hp2⟩)
      by_cases q1 : (c2.1 + dc.1, c2.2 + dc.2) ∈ cs
      · simp [q1]
        exact stay
      simp only [decide_eq_false q1, Bool.not_false, if_true]
      by_cases q2' : ¬ (((cs.map cellD).length : Int) < n)
      · simp only [decide_eq_false q2', Bool.false_eq_true, if_false]
        exact stay
      have q2 := Decidable.not_not.mp q2'
      simp only [decide_eq_true q2, if_true]
      by_cases q3' : ¬ (0 ≤ c2.1 + dc.1)
      · simp only [decide_eq_false q3', Bool.false_eq_true, if_false]
        exact stay
      have q3 := Decidable.not_not.mp q3'
      simp only [decide_eq_true q3, if_true]
      by_cases q4' : ¬ (c2.1 + dc.1 ≤ 30)
      · simp only [decide_eq_false q4', Bool.false_eq_true, if_false]
        exact stay
      have q4 := Decidable.not_not.mp q4'
      simp only [decide_eq_true q4, if_true]
      by_cases q5' : ¬ (0 ≤ c2.2 + dc.2)
      · simp only [decide_eq_false q5', Bool.false_eq_true, if_false]
        exact stay
      have q5 := Decidable.not_not.mp q5'
      simp only [decide_eq_true q5, if_true]
      by_cases q6' : ¬ (c2.2 + dc.2 ≤ 30)
      · simp only [decide_eq_false q6', Bool.false_eq_true, if_false]
        exact stay
      have q6 := Decidable.not_not.mp q6'
      simp only [decide_eq_true q6, if_true]
      rw [List.length_map] at q2
      refine ⟨by rw [List.length_map]; exact Nat.lt_of_le_of_lt hl2 (by decide), Up.of (next _ _ ⟨cs ++ [(c2.1 + dc.1, c2.2 + dc.2)], s5, _, _, _, _, _, _, rfl, by simp, ⟨?_, ?_, ?_⟩, hx2.put hp0, ?_, ?_⟩)⟩
      · rw [List.nodup_append]
        refine ⟨G.nd, by simp, fun a ha b hb => ?_⟩
        rw [List.mem_singleton.mp hb]
        exact fun z => q1 (z ▸ ha)
      · rw [List.length_append, List.length_singleton]
        omega
      · intro c hc
        rcases List.mem_append.mp hc with hc | hc
        · exact G.ok c hc
        · rw [List.mem_singleton.mp hc]
          exact ⟨q3, q4, q5, q6⟩
      · rw [mup_ne nh]
        exact hm2
      · rw [mup_same, List.map_append]
        rfl
  · obtain ⟨cs, s', o3, o4, o5, o6, o7, o8, rfl, hne, G, hx, hm', hp'⟩ := hI
    simp [s_go, hp']
    obtain ⟨F, hF, eF⟩ := cells_sorted cs
    refine ⟨cells_sortC (by have := G.len; omega), fun q hq => ⟨mup M hh (handD s'), ?_, ?_⟩⟩
    · exact (hx.new hq (fresh_ne hm' hq)).mle (by rw [mup_ne (fun z => by rw [← z, hm'] at hq; cases hq)]; exact hm')
    · rw [eF]
      exact h F s' (G.perm hF)
  · refine ⟨[(v1, v2)], s2, none, none, none, none, none, none, rfl, by simp, ⟨by simp, by simp, fun c hc => ?_⟩, ?_, ?_, ?_⟩
    · rw [List.mem_singleton.mp hc]
      unfold okCell
      omega
    · exact ((Ext.refl hh M).puth.puth).new hp np
    · rw [mup_ne nh]
      exact mup_same
    · exact mup_same
end DL
namespace DL
open PySem PySem.Spec PyProof.Rows L2
theorem Good.sub {F A : List Cell} (G : Good F) (h : A.Sublist F) : Good A := ⟨h.nodup G.nd, Nat.le_trans h.length_le G.len, fun c hc => G.ok c (h.subset hc)⟩
def rectL (a b r c : Int) : List Cell := (List.range (a * b).toNat).map fun (k : Nat) => (r + k / b, c + k % b)
theorem rect_good {a b r c : Int} (ha : 1 ≤ a) (hb : 1 ≤ b) (hab : a * b ≤ 100) (hr : 0 ≤ r) (hr2 : r + a ≤ 31) (hc : 0 ≤ c) (hc2 : c + b ≤ 31) : Good (rectL a b r c) := by
  refine ⟨?_, ?_, fun x hx => ?_⟩
  · refine List.Pairwise.map _ (fun x y (h : x ≠ y) e => h ?_) List.nodup_range
    injection e with e1 e2
    have h1 := Int.mul_ediv_add_emod (x : Int) b
    have h2 := Int.mul_ediv_add_emod (y : Int) b
    have e3 : (x : Int) / b = y / b := by omega
    have e4 : (x : Int) % b = y % b := by omega
    rw [e3, e4] at h1
    omega
  · unfold rectL
    rw [List.length_map, List.length_range]
    omega
  · obtain ⟨k, hk, rfl⟩ := List.mem_map.mp hx
    have hk := List.mem_range.mp hk
    have h0 : 0 ≤ (k : Int) / b := Int.ediv_nonneg (by omega) (by omega)
    have h1 : (k : Int) / b < a := Int.ediv_lt_of_lt_mul (by omega) (by omega)
    have h2 : 0 ≤ (k : Int) % b := Int.emod_nonneg _ (by omega)
    have h3 : (k : Int) % b < b := Int.emod_lt_of_pos _ (by omega)
    refine ⟨?_, ?_, ?_, ?_⟩
    · show 0 ≤ r + (k : Int) / b; omega
    · show r + (k : Int) / b ≤ 30; omega
    · show 0 ≤ c + (k : Int) % b; omega
    · show c + (k : Int) % b ≤ 30; omega
theorem ints_at {ns : List Int} {v : Int} (h0 : 0 ≤ v) (h1 : v < ns.length) : ∃ n ∈ ns, atI (ns.map D.int) v = some (.int n) := by
  have hl : v.toNat < ns.length := by omega
  exact ⟨ns[v.toNat], List.getElem_mem hl, atI_of h0 (by rw [List.getElem?_map, List.getElem?_eq_getElem hl]; rfl)⟩
theorem ln_floor : ∀ ds M E Q, sp_floor ds M E Q → ds.length = 1 := fun ds M E Q ⟨_, _, h, _⟩ => by rw [h]; rfl
theorem lw_floor : ∀ ds M E Q, sp_floor ds M E Q → rd_floor sp_grown sp_pick (dEnds Q E) (dStart ["_law_hand_here", "_law_way", "_law_high", "_law_wide", "_law_row", "_law_column", "_law_some", "_law_often", "_law_k", "_law_cell"] ds) M := by
  rintro ds M E Q ⟨hh, s, rfl, hm, h⟩
  simp [rd_floor, dStart]
  refine i_pick hm (by decide) (by decide) fun way s1 w0 w1 => go ?_
  simp
  refine i_pick mup_same (by decide) (by decide) fun a1 s2 a10 a11 => ?_
  simp
  refine i_pick mup_same (by decide) (by decide) fun b1 s3 b10 b11 => ?_
  rw [mup_mup, mup_mup]
  simp
  refine ⟨small, go ?_⟩
  simp
  refine i_pick mup_same (by decide) (by decide) fun v4 s4 v40 v41 => ?_
  rw [mup_mup]
  have x4 : Ext hh M (mup M hh (handD s4)) := (Ext.refl hh M).puth
  by_cases e4 : v4 = 0
  case' pos =>
    simp [e4]
    refine ⟨small, small, fun q hq => i_pick (s := s4) ?_ (by decide) (by decide) fun v5 s5 v50 v51 => ?_⟩
    · rw [mup_ne (fun z => by rw [← z, mup_same] at hq; cases hq)]
      exact mup_same
    have nq : q ≠ hh := fresh_ne mup_same hq
    obtain ⟨dc, hdc, e5⟩ := cells_at (cs := [(1, 31), (31, 1), (2, 31), (31, 2)]) v50 (by simpa using v51)
    simp only [List.map_cons, List.map_nil, cellD] at e5
    simp [mup_ne nq, e5]
    have hm5 : mup (mup (mup M hh (handD s4)) q (.lst [D.tup [.int 1, .int 31], .tup [.int 31, .int 1], .tup [.int 2, .int 31], .tup [.int 31, .int 2]])) hh (handD s5) hh = some (handD s5) := mup_same
    have hx5 : Ext hh M (mup (mup (mup M hh (handD s4)) q (.lst [D.tup [.int 1, .int 31], .tup [.int 31, .int 1], .tup [.int 2, .int 31], .tup [.int 31, .int 2]])) hh (handD s5)) := (x4.new hq nq).puth
    generalize mup (mup (mup M hh (handD s4)) q (.lst [D.tup [.int 1, .int 31], .tup [.int 31, .int 1], .tup [.int 2, .int 31], .tup [.int 31, .int 2]])) hh (handD s5) = M5 at hm5 hx5 ⊢
    obtain ⟨a, b⟩ := dc
    have hd : 1 ≤ a ∧ a ≤ 31 ∧ 1 ≤ b ∧ b ≤ 31 ∧ a * b ≤ 62 := by
      simp only [List.mem_cons, List.mem_nil_iff, or_false, Prod.mk.injEq] at hdc
      rcases hdc with ⟨rfl, rfl⟩ | ⟨rfl, rfl⟩ | ⟨rfl, rfl⟩ | ⟨rfl, rfl⟩ <;> decide
    obtain ⟨d1, d2, d3, d4, d5⟩ := hd
    replace d5 : a * b ≤ 64 := by omega
  case' neg =>
    simp [e4]
    obtain ⟨a, ha⟩ : ∃ a, a = 1 + a1 := ⟨_, rfl⟩
    obtain ⟨b, hb⟩ : ∃ b, b = 1 + b1 := ⟨_, rfl⟩
    rw [← ha, ← hb]
    have d1 : 1 ≤ a := by omega
    have d2 : a ≤ 31 := by omega
    have d3 : 1 ≤ b := by omega
    have d4 : b ≤ 31 := by omega
    have d5 : a * b ≤ 64 := by
      have : a * b ≤ 8 * 8 := Int.mul_le_mul (by omega) (by omega) (by omega) (by omega)
      omega
    obtain ⟨s5, hs5⟩ : ∃ s5, s5 = s4 := ⟨_, rfl⟩
    rw [← hs5] at x4 ⊢
    have hm5 : mup M hh (handD s5) hh = some (handD s5) := mup_same
    have hx5 := x4
    generalize mup M hh (handD s5) = M5 at hm5 hx5 ⊢
  all_goals
    refine go ?_
    simp
    refine i_pick hm5 (by omega) (by omega) fun r s6 r0 r1 => ?_
    refine i_pick mup_same (by omega) (by omega) fun c s7 c0 c1 => ?_
    rw [mup_mup]
    have hm7 : mup M5 hh (handD s7) hh = some (handD s7) := mup_same
    have hx7 : Ext hh M (mup M5 hh (handD s7)) := hx5.puth
    generalize mup M5 hh (handD s7) = M7 at hm7 hx7 ⊢
    refine ⟨small, go ?_⟩
    simp
    have hab : 0 ≤ a * b := Int.mul_nonneg (by omega) (by omega)
    refine ⟨mulOk_l (by omega) (by omega), by omega, by omega, ?_⟩
    have G := rect_good d1 d3 (by omega : a * b ≤ 100) r0 (by omega) c0 (by omega)
    refine comp_map (M := M7) (fun d => match d with | .int k => cellD (r + k / b, c + k % b) | _ => .non) trivial _ [] (fun d hd R R' hR => ?_) ?_ ?_
    · obtain ⟨k, hk, rfl⟩ := List.mem_map.mp hd
      simp [wipeD]
      exact ⟨⟨by omega, by omega⟩, by omega, small, hR⟩
    · rw [List.length_nil, List.length_map, List.length_range]
      have := small (n := 100)
      omega
    · intro p hp
      have el : (List.map (fun d => match d with | D.int k => cellD (r + k / b, c + k % b) | _ => .non) (List.map (fun (i : Nat) => D.int (i : Int)) (List.range (a * b).toNat))) = (rectL a b r c).map cellD := by
        unfold rectL
        rw [List.map_map, List.map_map]
        rfl
      rw [List.nil_append, el]
      have np : p ≠ hh := fresh_ne hm7 hp
      have hp0 : M p = none := by
        cases e : M p with
        | none => rfl
        | some o => rw [hx7 p o np e] at hp; cases hp
      have hp8 : mup M7 p (.lst ((rectL a b r c).map cellD)) p = some (.lst ((rectL a b r c).map cellD)) := mup_same
      have hm8 : mup M7 p (.lst ((rectL a b r c).map cellD)) hh = some (handD s7) := by rw [mup_ne (fun z => np z.symm)]; exact hm7
      have hx8 : Ext hh M (mup M7 p (.lst ((rectL a b r c).map cellD))) := hx7.new hp np
      generalize mup M7 p (.lst ((rectL a b r c).map cellD)) = M8 at hp8 hm8 hx8 ⊢
      generalize rectL a b r c = F at G hp8 ⊢
      refine go ?_
      simp [hp8]
      by_cases w2 : way < 2
      · simp [w2]
        exact ⟨_, hx8.mle hm8, h F s7 G⟩
      simp [w2]
      refine go ?_
      simp
      by_cases w6 : way < 6
      · simp [w6]
        refine ⟨small, fun q hq => i_pick (s := s7) ?_ (by decide) (by decide) fun v9 s9 v90 v91 => ?_⟩
        · rw [mup_ne (fun z => by rw [← z, hm8] at hq; cases hq)]
          exact hm8
        have nq : q ≠ hh := fresh_ne hm8 hq
        have npq : p ≠ q := fun z => by rw [← z, hp8] at hq; cases hq
        obtain ⟨oft, hoft, eo⟩ := ints_at (ns := [2, 3, 4, 8]) v90 (by simpa using v91)
        simp only [List.map_cons, List.map_nil] at eo
        simp only [s_ix_ref, mup_ne nq, mup_same, eo]
        have ho : 0 < oft ∧ oft < 2 ^ 64 := by
          simp only [List.mem_cons, List.mem_nil_iff, or_false] at hoft
          rcases hoft with rfl | rfl | rfl | rfl <;> decide
        have hp10 : mup (mup M8 q (.lst [.int 2, .int 3, .int 4, .int 8])) hh (handD s9) p = some (.lst (F.map cellD)) := by rw [mup_ne np, mup_ne npq]; exact hp8
        have hm10 : mup (mup M8 q (.lst [.int 2, .int 3, .int 4, .int 8])) hh (handD s9) hh = some (handD s9) := mup_same
        have hx10 : Ext hh M (mup (mup M8 q (.lst [.int 2, .int 3, .int 4, .int 8])) hh (handD s9)) := (hx8.new hq nq).puth
        generalize mup (mup M8 q (.lst [.int 2, .int 3, .int 4, .int 8])) hh (handD s9) = M10 at hp10 hm10 hx10 ⊢
        refine go ?_
        simp [hp10]
        refine comp_inv (fun rem acc M' => ∃ (A R : List Cell) (s' : Hand), rem = R.map cellD ∧ acc = A.map cellD ∧ (A ++ R).Sublist F ∧ Ext hh M M' ∧ M' hh = some (handD s') ∧ M' p = some (.lst (F.map cellD)))
          (fun d rem acc M' N hI next => ?_) (fun acc M' hI => ?_) _ _ _ ⟨[], F, s9, rfl, rfl, List.Sublist.refl _, hx10, hm10, hp10⟩
        · obtain ⟨A, R, s', hrem, rfl, hsub, hx', hm', hp'⟩ := hI
          obtain ⟨c9, R, rfl⟩ : ∃ c9 R', R = c9 :: R' := by
            cases R with
            | nil => simp at hrem
            | cons x R => exact ⟨x, R, rfl⟩
          rw [List.map_cons] at hrem
          injection hrem with hrem1 hrem2
          subst hrem1 hrem2
          refine ⟨hp', ?_⟩
          simp [wipeD]
          refine i_pick hm' ho.1 ho.2 fun v11 s11 v110 v111 => ?_
          have hlA : A.length ≤ 100 := by
            have h1 := hsub.length_le
            have h2 := G.len
            rw [List.length_append] at h1
            omega
          by_cases g0 : 0 < v11
          · simp [g0]
            refine ⟨Nat.lt_of_le_of_lt hlA (by decide), _, MLe.refl _, ?_⟩
            exact next _ _ ⟨A ++ [c9], R, s11, rfl, by simp, by simpa using hsub, hx'.puth, mup_same, by rw [mup_ne np]; exact hp'⟩
          · simp [g0]
            refine ⟨_, MLe.refl _, ?_⟩
            exact next _ _ ⟨A, R, s11, rfl, rfl, (List.Sublist.append (List.Sublist.refl A) (List.sublist_cons_self c9 R)).trans hsub, hx'.puth, mup_same, by rw [mup_ne np]; exact hp'⟩
        · obtain ⟨A, R, s', hrem, rfl, hsub, hx', hm', hp'⟩ := hI
          have hR : R = [] := by
            cases R with
            | nil => rfl
            | cons _ _ => simp at hrem
          subst hR
          rw [List.append_nil] at hsub
          refine ⟨hp', fun t ht => ⟨_, (hx'.new ht (fresh_ne hm' ht)).mle (by rw [mup_ne (fun z => by rw [← z, hm'] at ht; cases ht)]; exact hm'), h A s' (G.sub hsub)⟩⟩
      simp [w6]
      refine go ?_
      simp
      refine ⟨small, fun q hq => i_pick (s := s7) ?_ (by decide) (by decide) fun v9 s9 v90 v91 => ?_⟩
      · rw [mup_ne (fun z => by rw [← z, hm8] at hq; cases hq)]
        exact hm8
      have nq : q ≠ hh := fresh_ne hm8 hq
      obtain ⟨mx, hmx, eo⟩ := ints_at (ns := [6, 24, 60]) v90 (by simpa using v91)
      simp only [List.map_cons, List.map_nil] at eo
      simp only [s_ix_ref, mup_ne nq, mup_same, eo]
      have ho : 0 < mx ∧ mx ≤ 60 := by
        simp only [List.mem_cons, List.mem_nil_iff, or_false] at hmx
        rcases hmx with rfl | rfl | rfl <;> decide
      refine i_pick mup_same (by omega) (by omega) fun v11 s11 v110 v111 => ?_
      simp
      refine i_grown mup_same (by omega) (by omega) fun F' s12 G' => ⟨_, ?_, h F' s12 G'⟩
      exact ((((hx8.new hq nq).puth).puth).puth).mle mup_same
end DL
/-! Plain: the cells in order, cut into rows that hang together, are the runs. -/
namespace DL
open PySem PySem.Spec PyProof.Rows L2
def uo (dn : Bool) (c : Cell) : Int := if dn = true then c.2 else c.1
def vo (dn : Bool) (c : Cell) : Int := if dn = true then c.1 else c.2
def ltC (dn : Bool) (x y : Cell) : Prop := uo dn x < uo dn y ∨ (uo dn x = uo dn y ∧ vo dn x < vo dn y)
theorem cell_ext {dn : Bool} {x y : Cell} (h1 : uo dn x = uo dn y) (h2 : vo dn x = vo dn y) : x = y := by
  unfold uo at h1
  unfold vo at h2
  cases dn <;> simp at h1 h2 <;> exact Prod.ext (by assumption) (by assumption)
abbrev mv (dn : Bool) (c : Cell) (m : Int) : Cell := moved c (stepOf dn) m
theorem uo_mv {dn : Bool} {c : Cell} {m : Int} : uo dn (mv dn c m) = uo dn c := by
  unfold uo mv moved stepOf
  cases dn <;> simp
theorem vo_mv {dn : Bool} {c : Cell} {m : Int} : vo dn (mv dn c m) = vo dn c + m := by
  unfold vo mv moved stepOf
  cases dn <;> simp
theorem mv_mv {dn : Bool} {c : Cell} {m k : Int} : mv dn (mv dn c m) k = mv dn c (m + k) := cell_ext (dn := dn) (by rw [uo_mv, uo_mv, uo_mv]) (by rw [vo_mv, vo_mv, vo_mv]; omega)
theorem mv_0 {dn : Bool} {c : Cell} : mv dn c 0 = c := cell_ext (dn := dn) uo_mv (by rw [vo_mv]; omega)
theorem kLe_iff {dn : Bool} {x y : Cell} : kLe dn x y = true ↔ ¬ ltC dn y x := by
  have e : kLe dn x y = !PySem.W.dataLt (kOf dn y) (kOf dn x) := rfl
  rw [e, Bool.not_eq_true', ← Bool.not_eq_true]
  have e2 : PySem.W.dataLt (kOf dn y) (kOf dn x) = true ↔ ltC dn y x := by
    unfold kOf
    rw [PySem.W.dataLt_pair (by simp [PySem.W.alike]) (by simp [PySem.W.alike, PySem.W.alikeAll]), PySem.W.dataLt_ii, PySem.W.dataLt_int]
    simp only [PyData.eqv, PyData.eqvAll, beq_iff_eq, Bool.and_true, Bool.and_eq_true]
    unfold ltC uo vo
    cases dn with
    | true =>
      simp only [if_true]
      by_cases h1 : y.2 = x.2
      · simp only [h1, if_true, and_true]
        by_cases h2 : y.1 = x.1
        · simp [h2]
        · simp [h2]
      · simp [h1]
    | false =>
      simp only [Bool.false_eq_true, if_false]
      by_cases h1 : y.1 = x.1
      · simp only [h1, if_true, true_and]
        by_cases h2 : y.2 = x.2
        · simp [h2]
        · simp [h2]
      · simp [h1]
  exact not_congr e2
theorem ltC_of {dn : Bool} {x y : Cell} (h : ¬ ltC dn y x) (hne : x ≠ y) : ltC dn x y := by
  unfold ltC at h ⊢
  by_cases h1 : uo dn x = uo dn y
  · by_cases h2 : vo dn x = vo dn y
    · exact absurd (cell_ext h1 h2) hne
    · omega
  · omega
theorem kLe_trans {dn : Bool} (a b c : Cell) (h1 : kLe dn a b = true) (h2 : kLe dn b c = true) : kLe dn a c = true := by
  rw [kLe_iff] at *
  unfold ltC at *
  omega
theorem kLe_total {dn : Bool} (a b : Cell) : (kLe dn a b || kLe dn b a) = true := by
  rw [Bool.or_eq_true, kLe_iff, kLe_iff]
  unfold ltC
  omega
theorem sorted_lt {F : List Cell} (dn : Bool) (h : F.Nodup) : (F.mergeSort (kLe dn)).Pairwise (ltC dn) := by
  have h1 := List.pairwise_mergeSort (le := kLe dn) kLe_trans kLe_total F
  have h2 : (F.mergeSort (kLe dn)).Nodup := (List.mergeSort_perm F (kLe dn)).nodup_iff.mpr h
  exact (h1.and h2).imp fun {a b} ⟨h, n⟩ => ltC_of (kLe_iff.mp h) n
/-- rows that hang together, over what is done of the sorted cells S -/
structure Grp (dn : Bool) (S done : List Cell) (gs : List (Cell × List Cell)) : Prop where
  flat : (gs.map (·.2)).flatten = done
  row : ∀ x ∈ gs, ∃ n : Nat, 0 < n ∧ x.2 = (List.range n).map fun (i : Nat) => mv dn x.1 i
  heads : gs.map (·.1) = done.filter fun c => decide (mv dn c (-1) ∉ S)
  ends : ∀ x ∈ gs.dropLast, mv dn x.1 x.2.length ∉ S
theorem Grp.nil {dn : Bool} {S : List Cell} : Grp dn S [] [] := ⟨rfl, fun x hx => absurd hx (by simp), rfl, fun x hx => absurd hx (by simp)⟩
/-- the last cell that is done -/
theorem Grp.last {dn : Bool} {S done : List Cell} {gs : List (Cell × List Cell)} {x : Cell × List Cell} (g : Grp dn S done (gs ++ [x])) : ∃ pre, done = pre ++ [mv dn x.1 ((x.2.length : Int) - 1)] ∧ x.2.getLast? = some (mv dn x.1 ((x.2.length : Int) - 1)) ∧ x.2 ≠ [] := by
  obtain ⟨n, h0, e⟩ := g.row x (by simp)
  obtain ⟨n, rfl⟩ : ∃ k, n = k + 1 := ⟨n - 1, by omega⟩
  have hl : x.2.length = n + 1 := by rw [e]; simp
  rw [List.range_succ, List.map_append] at e
  simp only [List.map_cons, List.map_nil] at e
  have e1 : ((x.2.length : Int) - 1) = (n : Int) := by rw [hl]; omega
  rw [e1]
  refine ⟨(gs.map (·.2)).flatten ++ (List.range n).map fun (i : Nat) => mv dn x.1 i, ?_, by rw [e]; simp, by rw [e]; simp⟩
  rw [← g.flat, List.map_append, List.flatten_append]
  simp only [List.map_cons, List.map_nil, List.flatten_cons, List.flatten_nil, List.append_nil]
  rw [e, List.append_assoc]
section
variable {dn : Bool} {S done rest : List Cell} {c : Cell} {gs : List (Cell × List Cell)}
theorem before (hS : S = done ++ c :: rest) (hs : S.Pairwise (ltC dn)) : ∀ d ∈ done, ltC dn d c := fun d hd => by
  rw [hS] at hs
  exact (List.pairwise_append.mp hs).2.2 d hd c List.mem_cons_self
theorem behind (hS : S = done ++ c :: rest) (hs : S.Pairwise (ltC dn)) : ∀ d ∈ rest, ltC dn c d := fun d hd => by
  rw [hS] at hs
  exact (List.pairwise_cons.mp (List.pairwise_append.mp hs).2.1).1 d hd
/-- the cell ahead of c stands in S only as the last one that is done -/
theorem ahead_last {l : Cell} {pre : List Cell} (hS : S = done ++ c :: rest) (hs : S.Pairwise (ltC dn)) (hd : done = pre ++ [l]) : mv dn c (-1) ∈ S ↔ l = mv dn c (-1) := by
  have lc := before hS hs l (by rw [hd]; simp)
  refine ⟨fun h => ?_, fun h => by rw [← h, hS, hd]; simp⟩
  have hlt : ltC dn (mv dn c (-1)) c := .inr ⟨uo_mv, by rw [vo_mv]; omega⟩
  rw [hS] at h
  rcases List.mem_append.mp h with h | h
  · rw [hd] at h
    rcases List.mem_append.mp h with h | h
    · have hpl : ltC dn (mv dn c (-1)) l := by
        rw [hS, hd, List.append_assoc] at hs
        exact (List.pairwise_append.mp hs).2.2 _ h l (by simp)
      unfold ltC at hpl lc
      rw [uo_mv, vo_mv] at hpl
      omega
    · exact (List.mem_singleton.mp h).symm
  · rcases List.mem_cons.mp h with h | h
    · have := congrArg (vo dn) h
      rw [vo_mv] at this
      omega
    · have := behind hS hs _ h
      unfold ltC at this hlt
      omega
theorem first_start (hS : S = [] ++ c :: rest) (hs : S.Pairwise (ltC dn)) : mv dn c (-1) ∉ S := fun h => by
  have hlt : ltC dn (mv dn c (-1)) c := .inr ⟨uo_mv, by rw [vo_mv]; omega⟩
  rw [hS, List.nil_append] at h
  rcases List.mem_cons.mp h with h | h
  · have := congrArg (vo dn) h
    rw [vo_mv] at this
    omega
  · have := behind hS hs _ h
    unfold ltC at this hlt
    omega
theorem after_last {l : Cell} {pre : List Cell} (hS : S = done ++ c :: rest) (hs : S.Pairwise (ltC dn)) (hd : done = pre ++ [l]) (hne : l ≠ mv dn c (-1)) : mv dn l 1 ∉ S := fun h => by
  have lc := before hS hs l (by rw [hd]; simp)
  have hlt : ltC dn l (mv dn l 1) := .inr ⟨uo_mv.symm, by rw [vo_mv]; omega⟩
  have hc : mv dn l 1 ≠ c := fun z => hne (by rw [← z, mv_mv]; exact mv_0.symm)
  rw [hS] at h
  rcases List.mem_append.mp h with h | h
  · have : mv dn l 1 = l ∨ ltC dn (mv dn l 1) l := by
      rw [hd] at h
      rcases List.mem_append.mp h with h | h
      · refine .inr ?_
        rw [hS, hd, List.append_assoc] at hs
        exact (List.pairwise_append.mp hs).2.2 _ h l (by simp)
      · exact .inl (List.mem_singleton.mp h)
    rcases this with z | z
    · have := congrArg (vo dn) z
      rw [vo_mv] at this
      omega
    · unfold ltC at z hlt
      omega
  · rcases List.mem_cons.mp h with h | h
    · exact hc h
    · have := behind hS hs _ h
      unfold ltC at this lc
      rw [uo_mv, vo_mv] at this
      omega
/-- a cell goes on with the last row -/
theorem Grp.on {x : Cell × List Cell} (hS : S = done ++ c :: rest) (hs : S.Pairwise (ltC dn)) (g : Grp dn S done (gs ++ [x])) (h : mv dn x.1 ((x.2.length : Int) - 1) = mv dn c (-1)) : Grp dn S (done ++ [c]) (gs ++ [(x.1, x.2 ++ [c])]) := by
  obtain ⟨pre, hd, _, _⟩ := g.last
  have ha : mv dn c (-1) ∈ S := (ahead_last hS hs hd).mpr h
  refine ⟨?_, fun y hy => ?_, ?_, fun y hy => ?_⟩
  · rw [← g.flat]
    simp
  · rcases List.mem_append.mp hy with hy | hy
    · exact g.row y (List.mem_append_left _ hy)
    · rw [List.mem_singleton.mp hy]
      obtain ⟨n, h0, e⟩ := g.row x (by simp)
      refine ⟨n + 1, by omega, ?_⟩
      rw [List.range_succ, List.map_append, ← e]
      simp only [List.map_cons, List.map_nil]
      have hl : x.2.length = n := by rw [e]; simp
      congr 2
      rw [hl] at h
      have := congrArg (fun z => mv dn z 1) h
      simp only [mv_mv] at this
      rw [show (n : Int) - 1 + 1 = n by omega, show (-1 : Int) + 1 = 0 by omega, mv_0] at this
      exact this.symm
  · have := g.heads
    rw [List.map_append] at this ⊢
    rw [List.filter_append, List.filter_cons, if_neg (by simpa using ha), List.filter_nil, List.append_nil, ← this]
    rfl
  · have := g.ends y
    rw [List.dropLast_concat] at this hy
    exact this hy
/-- a row begins -/
theorem Grp.new (hS : S = done ++ c :: rest) (hs : S.Pairwise (ltC dn)) (g : Grp dn S done gs) (h : mv dn c (-1) ∉ S) : Grp dn S (done ++ [c]) (gs ++ [(c, [c])]) := by
  refine ⟨?_, fun y hy => ?_, ?_, fun y hy => ?_⟩
  · rw [← g.flat]
    simp
  · rcases List.mem_append.mp hy with hy | hy
    · exact g.row y hy
    · rw [List.mem_singleton.mp hy]
      refine ⟨1, by omega, ?_⟩
      show [c] = [mv dn c 0]
      rw [mv_0]
  · rw [List.map_append, g.heads, List.filter_append, List.filter_cons, if_pos (by simpa using h), List.filter_nil]
    rfl
  · rw [List.dropLast_concat] at hy
    rcases List.eq_nil_or_concat gs with rfl | ⟨gs', x, e⟩
    · exact absurd hy (by simp)
    · rw [List.concat_eq_append] at e
      subst e
      rcases List.mem_append.mp hy with hy | hy
      · exact g.ends y (by rw [List.dropLast_concat]; exact hy)
      · rw [List.mem_singleton.mp hy]
        obtain ⟨pre, hd, _, _⟩ := g.last
        have := after_last hS hs hd (fun z => h ((ahead_last hS hs hd).mpr z))
        rw [mv_mv] at this
        rw [show (x.2.length : Int) - 1 + 1 = x.2.length by omega] at this
        exact this
end
theorem lenN_eq {F : List Cell} {s c : Cell} : ∀ (f m n : Nat), m ≤ n → n ≤ m + f → (∀ i : Nat, m ≤ i → i < n → moved c s i ∈ F) → moved c s n ∉ F → lenN F s c f m = n
  | 0, m, n, h1, h2, _, _ => by rw [lenN]; omega
  | f + 1, m, n, h1, h2, h3, h4 => by
    rw [lenN]
    by_cases e : m = n
    · subst e
      rw [if_neg h4]
    · rw [if_pos (h3 m (Nat.le_refl m) (by omega))]
      exact lenN_eq f (m + 1) n (by omega) (by omega) (fun i h5 h6 => h3 i (by omega) h6) h4
/-- all done: the rows are the runs -/
theorem Grp.runs {dn : Bool} {F : List Cell} {gs : List (Cell × List Cell)} (G : Good F) (g : Grp dn (F.mergeSort (kLe dn)) (F.mergeSort (kLe dn)) gs) : gs.map (fun x => (x.1, x.2.length)) = grpL F dn := by
  have mem : ∀ c, c ∈ F.mergeSort (kLe dn) ↔ c ∈ F := fun c => (List.mergeSort_perm F (kLe dn)).mem_iff
  have hs := sorted_lt dn G.nd
  unfold grpL
  have e1 : ((F.mergeSort (kLe dn)).filter fun c => decide (moved c (stepOf dn) (-1) ∉ F)) = gs.map (·.1) := by
    rw [g.heads]
    refine List.filter_congr fun c _ => ?_
    rw [decide_eq_decide]
    exact not_congr (mem _).symm
  rw [e1, List.map_map]
  refine List.map_congr_left fun x hx => ?_
  show (x.1, x.2.length) = (x.1, lenN F (stepOf dn) x.1 40 1)
  congr 1
  obtain ⟨n, h0, e⟩ := g.row x hx
  have hl : x.2.length = n := by rw [e]; simp
  have hin : ∀ i : Nat, i < n → mv dn x.1 i ∈ F := fun i hi => by
    rw [← mem, ← g.flat]
    refine List.mem_flatten.mpr ⟨x.2, List.mem_map_of_mem hx, ?_⟩
    rw [e]
    exact List.mem_map.mpr ⟨i, List.mem_range.mpr hi, rfl⟩
  have hout : mv dn x.1 n ∉ F := by
    rw [← mem]
    rcases List.eq_nil_or_concat gs with rfl | ⟨gs', y, ey⟩
    · exact absurd hx (by simp)
    · rw [List.concat_eq_append] at ey
      subst ey
      rcases List.mem_append.mp hx with hx | hx
      · have := g.ends x (by rw [List.dropLast_concat]; exact hx)
        rw [hl] at this
        exact this
      · have hxy := List.mem_singleton.mp hx
        subst hxy
        obtain ⟨pre, hd, _, _⟩ := g.last
        intro z
        have hlt : ltC dn (mv dn x.1 ((x.2.length : Int) - 1)) (mv dn x.1 n) := .inr ⟨by rw [uo_mv, uo_mv], by rw [vo_mv, vo_mv, hl]; omega⟩
        rw [hd] at z
        rcases List.mem_append.mp z with z | z
        · rw [hd] at hs
          have := (List.pairwise_append.mp hs).2.2 _ z _ (List.mem_singleton_self _)
          unfold ltC at this hlt
          omega
        · have := congrArg (vo dn) (List.mem_singleton.mp z)
          rw [vo_mv, vo_mv, hl] at this
          omega
  rw [hl]
  refine (lenN_eq 40 1 n (by omega) ?_ (fun i _ h2 => hin i h2) hout).symm
  have h1 := G.ok _ (hin (n - 1) (by omega))
  have h2 := G.ok _ (hin 0 h0)
  unfold okCell mv moved stepOf at h1 h2
  cases dn <;> simp at h1 h2 <;> omega
end DL
namespace DL
open PySem PySem.Spec PyProof.Rows L2
theorem s_eq_down {dn : Bool} {M : MH} {Q : DVK} : eqR true (.str (wordS dn)) (.str "down") M Q = Q (.bl dn) M := by
  have h1 : okD 60 (.str (wordS dn)) = true := okD_word dn 60
  have h2 : okD 60 (.str "down") = true := okD_word true 60
  have e : ∀ inst : Decidable (D.str (wordS dn) = D.str "down"), @decide _ inst = dn := fun inst => by
    cases dn with
    | true => exact decide_eq_true rfl
    | false => exact decide_eq_false fun h => absurd (D.str.inj h) (by decide +kernel)
  exact propext ⟨fun z => (congrArg (fun b => Q (.bl b) M) (e _)).mp z.2, fun z => ⟨⟨h1, h2⟩, (congrArg (fun b => Q (.bl b) M) (e _)).mpr z⟩⟩
theorem s_eq_right {dn : Bool} {M : MH} {Q : DVK} : eqR true (.str (wordS dn)) (.str "right") M Q = Q (.bl (!dn)) M := by
  have h1 : okD 60 (.str (wordS dn)) = true := okD_word dn 60
  have h2 : okD 60 (.str "right") = true := okD_word false 60
  have e : ∀ inst : Decidable (D.str (wordS dn) = D.str "right"), @decide _ inst = !dn := fun inst => by
    cases dn with
    | true => exact decide_eq_false fun h => absurd (D.str.inj h) (by decide +kernel)
    | false => exact decide_eq_true rfl
  exact propext ⟨fun z => (congrArg (fun b => Q (.bl b) M) (e _)).mp z.2, fun z => ⟨⟨h1, h2⟩, (congrArg (fun b => Q (.bl b) M) (e _)).mpr z⟩⟩
theorem ln_runs_of {tP : Addr} : ∀ ds M E Q, sp_runs_of tP ds M E Q → ds.length = 2 := fun ds M E Q ⟨_, _, h, _⟩ => by rw [h]; rfl
theorem lw_runs_of {tP : Addr} : ∀ ds M E Q, sp_runs_of tP ds M E Q → rd_runs_of tP (dEnds Q E) (dStart ["_law_floor_here", "_law_word", "_law_some", "_law_cell", "_law_ahead", "_law_one"] ds) M := by
  rintro ds M E Q ⟨F, dn, rfl, G, ht, h⟩
  simp [rd_runs_of, dStart]
  refine fun p hp => go ?_
  simp only [s_seq, s_for, s_iseq]
  have hpt : tP ≠ p := fun z => by rw [z, hp] at ht; cases ht
  refine ⟨F, wordS dn, rfl, rfl, by rw [mup_ne hpt]; exact ht, Nat.le_trans G.len small, fun q hq => ?_⟩
  have ed : decide (wordS dn = "down") = dn := by cases dn <;> decide +kernel
  rw [ed]
  obtain ⟨npq, hq⟩ := mup_none hq
  simp
  have hs := sorted_lt dn G.nd
  have hlen : (F.mergeSort (kLe dn)).length ≤ 100 := by rw [List.length_mergeSort]; exact G.len
  obtain ⟨S, hS⟩ : ∃ S, S = F.mergeSort (kLe dn) := ⟨_, rfl⟩
  rw [← hS] at hs hlen ⊢
  refine for_inv (fun rem τ M' => ∃ (o3 o4 : Option D) (done R : List Cell) (L : List (Addr × Cell × List Cell)), τ = [some (.tup (F.map cellD)), some (.str (wordS dn)), some (.ref p), o3, o4, none] ∧ rem = R.map cellD ∧ S = done ++ R ∧ Grp dn S done (L.map (·.2)) ∧
      (L.map (·.1)).Nodup ∧ (∀ y ∈ L, y.1 ≠ p ∧ y.1 ≠ q ∧ M y.1 = none ∧ M' y.1 = some (.lst (y.2.2.map cellD))) ∧ MLe M M' ∧ M' p = some (.lst (L.map fun y => .ref y.1)) ∧ M' q = some (.lst (S.map cellD)))
    (fun d rem τ M' N hI next => ?_) (fun τ M' hI => ?_) _ _ _ ?_
  · obtain ⟨o3, o4, done, R, L, rfl, hrem, hd, g, nd, hL, hle, hMp, hMq⟩ := hI
    obtain ⟨c, R, rfl⟩ : ∃ c R', R = c :: R' := by
      cases R with
      | nil => simp at hrem
      | cons x R => exact ⟨x, R, rfl⟩
    rw [List.map_cons] at hrem
    injection hrem with hrem1 hrem2
    subst hrem1 hrem2
    refine ⟨hMq, ?_⟩
    simp [cellD]
    simp only [s_eq_down, s_eq_right]
    simp
    refine ⟨small, go ?_⟩
    simp [hMp]
    have ea : D.tup [.int (c.1 - if dn = true then 1 else 0), .int (c.2 - if dn = false then 1 else 0)] = cellD (mv dn c (-1)) := by
      unfold cellD mv moved stepOf
      cases dn <;> simp <;> omega
    rw [ea]
    refine fun q2 hq2 => ?_
    have n2 : ∀ a o, M' a = some o → a ≠ q2 := fun a o e z => by rw [z, hq2] at e; cases e
    have hp2 : mup M' q2 (.lst []) p = some (.lst (L.map fun y => .ref y.1)) := by rw [mup_ne (n2 _ _ hMp)]; exact hMp
    have hq3 : mup M' q2 (.lst []) q = some (.lst (S.map cellD)) := by rw [mup_ne (n2 _ _ hMq)]; exact hMq
    have hL2 : ∀ y ∈ L, y.1 ≠ p ∧ y.1 ≠ q ∧ M y.1 = none ∧ mup M' q2 (.lst []) y.1 = some (.lst (y.2.2.map cellD)) := fun y hy => by
      obtain ⟨a1, a2, a3, a4⟩ := hL y hy
      exact ⟨a1, a2, a3, by rw [mup_ne (n2 _ _ a4)]; exact a4⟩
    have hle2 : MLe M (mup M' q2 (.lst [])) := fun a o e => by rw [mup_ne (n2 _ _ (hle a o e))]; exact hle a o e
    have h22 : mup M' q2 (.lst []) q2 = some (.lst []) := mup_same
    generalize mup M' q2 (.lst []) = M2 at hp2 hq3 hL2 hle2 h22 ⊢
    have hLlen : L.length ≤ 100 := by
      have h1 := congrArg List.length g.heads
      simp only [List.length_map] at h1
      have h2 := List.length_filter_le (fun c => decide (mv dn c (-1) ∉ S)) done
      have h3 := congrArg List.length hd
      rw [List.length_append] at h3
      omega
    have newc : ∀ r, M2 r = none → mv dn c (-1) ∉ S → Up N [some (.tup (F.map cellD)), some (.str (wordS dn)), some (.ref p), some (.tup [.int c.1, .int c.2]), some (cellD (mv dn c (-1))), none]
        (mup (mup M2 r (.lst [.tup [.int c.1, .int c.2]])) p (.lst ((L.map fun y => .ref y.1) ++ [.ref r]))) := fun r hr hst => by
      have nr : ∀ a o, M2 a = some o → a ≠ r := fun a o e z => by rw [z, hr] at e; cases e
      have hMr : M r = none := by
        cases e : M r with
        | none => rfl
        | some o => rw [hle2 r o e] at hr; cases hr
      refine Up.of (next _ _ ⟨_, _, done ++ [c], R, L ++ [(r, c, [c])], rfl, rfl, by rw [hd]; simp, ?_, ?_, fun y hy => ?_, ?_, ?_, ?_⟩)
      · rw [List.map_append]
        exact g.new hd hs hst
      · rw [List.map_append, List.nodup_append]
        refine ⟨nd, by simp, fun a ha b hb => ?_⟩
        obtain ⟨y, hy, rfl⟩ := List.mem_map.mp ha
        rw [List.mem_singleton.mp hb]
        exact nr _ _ (hL2 y hy).2.2.2
      · rcases List.mem_append.mp hy with hy | hy
        · obtain ⟨a1, a2, a3, a4⟩ := hL2 y hy
          exact ⟨a1, a2, a3, by rw [mup_ne a1, mup_ne (nr _ _ a4)]; exact a4⟩
        · rw [List.mem_singleton.mp hy]
          have n1 : r ≠ p := fun z => nr _ _ hp2 z.symm
          have n2 : r ≠ q := fun z => nr _ _ hq3 z.symm
          exact ⟨n1, n2, hMr, by rw [mup_ne n1]; exact mup_same⟩
      · exact fun a o e => by
          have hap : a ≠ p := fun z => by rw [z, hp] at e; cases e
          rw [mup_ne hap, mup_ne (nr _ _ (hle2 a o e))]
          exact hle2 a o e
      · rw [mup_same, List.map_append]
        rfl
      · rw [mup_ne npq, mup_ne (nr _ _ hq3)]
        exact hq3
    simp only [hp2, h22]
    rcases List.eq_nil_or_concat L with rfl | ⟨L', y, e⟩
    · have hd0 : done = [] := by rw [← g.flat]; rfl
      subst hd0
      have hst := first_start hd hs
      simp
      refine ⟨small, fun r hr => ?_⟩
      have hpr : p ≠ r := fun z => by rw [← z, hp2] at hr; cases hr
      simp [mup_ne hpr, hp2]
      exact ⟨by decide, by simpa using newc r hr hst⟩
    · rw [List.concat_eq_append] at e
      subst e
      have g2 := g
      rw [List.map_append] at g2
      simp only [List.map_cons, List.map_nil] at g2
      obtain ⟨pre, hdl, hlast, hne⟩ := g2.last
      obtain ⟨y1, y2, y3, y4⟩ := hL2 y (by simp)
      have hat : atI ((L' ++ [y]).map fun y => D.ref y.1) (-1) = some (.ref y.1) := atI_lastOf (by simp)
      have hat2 : atI (y.2.2.map cellD) (-1) = some (cellD (mv dn y.2.1 ((y.2.2.length : Int) - 1))) := atI_lastOf (by rw [List.getLast?_map, hlast]; rfl)
      have hn : ((L' ++ [y]).map fun y => D.ref y.1) ≠ [] := by simp
      simp only [hn, if_false, hat, s_ix_ref, y4, hat2]
      refine eq_val (okD_cell _ 59) (okD_cell _ 59) ?_
      simp only [if_true]
      by_cases eq : mv dn y.2.1 ((y.2.2.length : Int) - 1) = mv dn c (-1)
      · rw [eq]
        have hat' : atI ((L'.map fun y => D.ref y.1) ++ [.ref y.1]) (-1) = some (.ref y.1) := atI_lastOf (by simp)
        simp [hp2, hat', y4]
        have hyl : y.2.2.length ≤ 100 := by
          have h1 := congrArg List.length g.flat
          have h3 := congrArg List.length hd
          rw [List.length_append] at h3
          simp at h1
          omega
        refine ⟨Nat.lt_of_le_of_lt hyl (by decide), Up.of (next _ _ ⟨_, _, done ++ [c], R, L' ++ [(y.1, y.2.1, y.2.2 ++ [c])], rfl, rfl, by rw [hd]; simp, ?_, ?_, fun z hz => ?_, ?_, ?_, ?_⟩)⟩
        · rw [List.map_append]
          exact g2.on hd hs eq
        · rw [List.map_append] at nd ⊢
          exact nd
        · rcases List.mem_append.mp hz with hz | hz
          · obtain ⟨a1, a2, a3, a4⟩ := hL2 z (List.mem_append_left _ hz)
            have nzy : z.1 ≠ y.1 := by
              rw [List.map_append, List.nodup_append] at nd
              exact nd.2.2 _ (List.mem_map_of_mem hz) _ (by simp)
            exact ⟨a1, a2, a3, by rw [mup_ne nzy]; exact a4⟩
          · rw [List.mem_singleton.mp hz]
            refine ⟨y1, y2, y3, ?_⟩
            show mup M2 y.1 _ y.1 = _
            rw [mup_same, List.map_append]
            rfl
        · exact fun a o e => by
            have ha : a ≠ y.1 := fun z => by rw [z, y3] at e; cases e
            rw [mup_ne ha]
            exact hle2 a o e
        · rw [mup_ne (fun z => y1 z.symm), hp2]
          simp
        · rw [mup_ne (fun z => y2 z.symm)]
          exact hq3
      · have hst : mv dn c (-1) ∉ S := fun z => eq ((ahead_last hd hs hdl).mp z)
        have hneq : ¬ cellD (mv dn y.2.1 ((y.2.2.length : Int) - 1)) = cellD (mv dn c (-1)) := fun z => eq (cellD_inj z)
        simp only [decide_eq_false hneq, Bool.false_eq_true, if_false]
        simp [hp2]
        refine ⟨small, fun r hr => ?_⟩
        have hpr : p ≠ r := fun z => by rw [← z, hp2] at hr; cases hr
        simp [mup_ne hpr, hp2]
        refine ⟨?_, by simpa using newc r hr hst⟩
        rw [List.length_append, List.length_singleton] at hLlen
        exact Nat.lt_of_le_of_lt hLlen (by decide)
  · obtain ⟨o3, o4, done, R, L, rfl, hrem, hd, g, nd, hL, hle, hMp, hMq⟩ := hI
    refine ⟨hMq, ?_⟩
    have hR : R = [] := by
      cases R with
      | nil => rfl
      | cons _ _ => simp at hrem
    subst hR
    rw [List.append_nil] at hd
    subst hd
    simp [s_go, hMp]
    refine comp_map (M := M') (fun d => match d with | .ref a => (match M' a with | some (.lst xs) => .tup [.str (wordS dn), xs.headD .non, .int xs.length] | _ => .non) | _ => .non) hMp _ [] (fun d hd R R' hR => ?_) ?_ ?_
    · obtain ⟨y, hy, rfl⟩ := List.mem_map.mp hd
      obtain ⟨a1, a2, a3, a4⟩ := hL y hy
      obtain ⟨n, h0, e⟩ := g.row y.2 (List.mem_map_of_mem hy)
      have hne : ∃ c cs, y.2.2 = c :: cs := by
        cases hh : y.2.2 with
        | nil => rw [hh] at e; have := congrArg List.length e; simp at this; omega
        | cons c cs => exact ⟨c, cs, rfl⟩
      obtain ⟨c, cs, hcs⟩ := hne
      rw [hcs, List.map_cons] at a4
      simp [wipeD, a4] at hR ⊢
      exact ⟨small, hR⟩
    · rw [List.length_nil, List.length_map]
      have h1 := congrArg List.length g.heads
      simp only [List.length_map] at h1
      have h2 := List.length_filter_le (fun c => decide (mv dn c (-1) ∉ S)) S
      have h3 := small (n := 100)
      omega
    · intro t htn
      have hMt : M t = none := by
        cases e : M t with
        | none => rfl
        | some o => rw [hle t o e] at htn; cases htn
      have el : List.map (fun d => match d with | .ref a => (match M' a with | some (.lst xs) => .tup [.str (wordS dn), xs.headD .non, .int xs.length] | _ => .non) | _ => .non) (L.map fun y => D.ref y.1) = (grpL F dn).map (runD dn) := by
        rw [hS] at g
        rw [← g.runs G, List.map_map, List.map_map, List.map_map]
        refine List.map_congr_left fun y hy => ?_
        obtain ⟨a1, a2, a3, a4⟩ := hL y hy
        obtain ⟨n, h0, e⟩ := g.row y.2 (List.mem_map_of_mem hy)
        obtain ⟨n, rfl⟩ : ∃ k, n = k + 1 := ⟨n - 1, by omega⟩
        show (match M' y.1 with | some (.lst xs) => D.tup [.str (wordS dn), xs.headD .non, .int xs.length] | _ => .non) = runD dn (y.2.1, y.2.2.length)
        rw [a4]
        show D.tup [.str (wordS dn), (y.2.2.map cellD).headD .non, .int (y.2.2.map cellD).length] = _
        rw [List.length_map]
        have eh : (y.2.2.map cellD).headD .non = cellD y.2.1 := by
          rw [e, List.range_succ_eq_map]
          simp only [List.map_cons, List.headD_cons]
          congr 1
          exact mv_0
        rw [eh]
        rfl
      rw [List.nil_append, el]
      exact ⟨_, hle.up, h t hMt⟩
  · exact ⟨none, none, [], S, [], rfl, rfl, rfl, Grp.nil, List.nodup_nil, fun y hy => absurd hy (by simp), (MLe.new (MLe.refl M) hp).new hq |>.trans (MLe.refl _), by rw [mup_ne (fun z => npq z.symm)]; exact mup_same, mup_same⟩
end DL
namespace DL
open PySem PySem.Spec PyProof.Rows L2
def sp_same0 : Nat → DSp
  | 0 => fun _ _ _ _ => False
  | n + 1 => sp_same n
theorem ln_same {n : Nat} : ∀ ds M E Q, sp_same n ds M E Q → ds.length = 2 := fun ds M E Q ⟨_, _, h, _⟩ => by rw [h]; rfl
section
variable {M : MH} {Q : DVK} {c : String} {xs : List D} {i : Int} {z : Str}
theorem isi_tup (hc : c = "int" ∨ c = "str" ∨ c = "bool" ∨ c = "tuple" ∨ c = "list") (h : Q (.bl (isSub "tuple" c)) M) : isiR [.tup xs, .ty c] M Q := ⟨hc, h⟩
theorem isi_int (hc : c = "int" ∨ c = "str" ∨ c = "bool" ∨ c = "tuple" ∨ c = "list") (h : Q (.bl (isSub "int" c)) M) : isiR [.int i, .ty c] M Q := ⟨hc, h⟩
theorem isi_str (hc : c = "int" ∨ c = "str" ∨ c = "bool" ∨ c = "tuple" ∨ c = "list") (h : Q (.bl (isSub "str" c)) M) : isiR [.str z, .ty c] M Q := ⟨hc, h⟩
end
theorem plainDs_iff (n : Nat) : ∀ ds : List D, plainDs n ds = true ↔ ∀ d ∈ ds, plainD n d = true
  | [] => by simp [plainDs]
  | d :: ds => by simp [plainDs, plainDs_iff n ds]
theorem bls_map {α : Type} (f : α → Bool) : ∀ l : List α, blsOf (l.map fun a => D.bl (f a)) = some (l.map f)
  | [] => rfl
  | a :: l => by simp [blsOf, bls_map f l]
theorem zip_all : ∀ {xs ys : List D}, xs.length = ys.length → ((List.zip xs ys).map fun p => decide (p.1 = p.2)).all id = decide (xs = ys)
  | [], [], _ => by simp
  | [], _ :: _, h => by simp at h
  | _ :: _, [], h => by simp at h
  | x :: xs, y :: ys, h => by
    have := zip_all (xs := xs) (ys := ys) (by simpa using h)
    simp only [List.zip_cons_cons, List.map_cons, List.all_cons, this, id]
    rw [Bool.eq_iff_iff]
    simp
def eqP : D → D
  | .tup [a, b] => .bl (decide (a = b))
  | _ => .non
theorem zip_f : ∀ xs ys : List D, (zipD xs ys).map eqP = (List.zip xs ys).map fun p => D.bl (decide (p.1 = p.2))
  | [], _ => by simp [zipD]
  | _ :: _, [] => by simp [zipD]
  | x :: xs, y :: ys => by
    have := zip_f xs ys
    unfold zipD at this ⊢
    simp only [List.zipWith_cons_cons, List.zip_cons_cons, List.map_cons, this]
    rfl
theorem lw_same {n : Nat} : ∀ ds M E Q, sp_same n ds M E Q → rd_same (sp_same0 n) (dEnds Q E) (dStart ["_law_got", "_law_due", "_law_one", "_law_other"] ds) M := by
  rintro ds M E Q ⟨x, y, rfl, hx, hy, hn, h⟩
  simp [rd_same, dStart]
  have t1 : isSub "tuple" "tuple" = true := rfl
  have t2 : isSub "int" "tuple" = false := rfl
  have t3 : isSub "str" "tuple" = false := rfl
  have t4 : isSub "int" "str" = false := rfl
  have t5 : isSub "str" "str" = true := rfl
  have t6 : isSub "tuple" "str" = false := rfl
  have t7 : isSub "int" "int" = true := rfl
  have t8 : isSub "str" "int" = false := rfl
  have t9 : isSub "tuple" "int" = false := rfl
  have t10 : isSub "int" "bool" = false := rfl
  cases y with
  | tup ys =>
    refine isi_tup (by decide) ?_
    simp [t1]
    cases x with
    | tup xs =>
      refine isi_tup (by decide) ?_
      simp [t1]
      by_cases hl : (xs.length : Int) = ys.length
      · simp [hl]
        refine go ?_
        simp
        cases n with
        | zero => simp [plainD] at hx
        | succ n =>
          simp only [plainD, Bool.and_eq_true, decide_eq_true_eq] at hx hy
          have px := (plainDs_iff n xs).mp hx.2
          have py := (plainDs_iff n ys).mp hy.2
          refine comp_map (M := M) eqP trivial _ [] (fun d hd R R' hR => ?_) ?_ ?_
          · obtain ⟨j, hj, e⟩ := List.mem_iff_getElem.mp hd
            obtain ⟨a, b, ha, hb, rfl⟩ := zipD_get (xs := xs) (ys := ys) (i := j) (d := d) (by rw [← e]; exact List.getElem?_eq_getElem hj)
            simp [wipeD]
            exact i_same (E := fun _ _ => False) (px a (List.mem_of_getElem? ha)) (py b (List.mem_of_getElem? hb)) (by omega) hR
          · unfold zipD
            rw [List.length_nil, List.length_zipWith, Nat.zero_add]
            exact Nat.le_trans (Nat.min_le_left _ _) (Nat.le_trans hx.1 (by decide))
          · intro p hp
            rw [List.nil_append, zip_f]
            simp only [s_all, mup_same, bls_map]
            rw [zip_all (by omega)]
            refine ⟨M, (MLe.refl M).new hp, ?_⟩
            have e : decide (D.tup xs = D.tup ys) = decide (xs = ys) := by
              rw [Bool.eq_iff_iff]
              simp
            rw [← e]
            exact h
      · simp [hl]
        refine endQ ?_
        have e : decide (D.tup xs = D.tup ys) = false := decide_eq_false fun z => hl (by injection z with z; rw [z])
        rw [e] at h
        exact h
    | int i =>
      refine isi_int (by decide) ?_
      simp [t2]
      exact endQ (by simpa using h)
    | str z =>
      refine isi_str (by decide) ?_
      simp [t3]
      exact endQ (by simpa using h)
    | _ => cases n <;> simp [plainD] at hx
  | int i =>
    refine isi_int (by decide) ?_
    simp [t2]
    refine go ?_
    simp
    refine isi_int (by decide) ?_
    simp [t4]
    refine go ?_
    simp
    cases x with
    | tup xs =>
      refine isi_tup (by decide) ?_
      simp [t9]
      exact endQ (by simpa using h)
    | int k =>
      refine isi_int (by decide) ?_
      simp [t7]
      refine isi_int (by decide) ?_
      simp [t10]
      exact endQ (by simpa using h)
    | str z =>
      refine isi_str (by decide) ?_
      simp [t8]
      exact endQ (by simpa using h)
    | _ => cases n <;> simp [plainD] at hx
  | str z =>
    refine isi_str (by decide) ?_
    simp [t3]
    refine go ?_
    simp
    refine isi_str (by decide) ?_
    simp [t5]
    have hz : okD 60 (.str z) = true := by cases n <;> simpa [plainD, okD] using hy
    cases x with
    | tup xs =>
      refine isi_tup (by decide) ?_
      simp [t6]
      exact endQ (by simpa using h)
    | int k =>
      refine isi_int (by decide) ?_
      simp [t4]
      exact endQ (by simpa using h)
    | str u =>
      have hu : okD 60 (.str u) = true := by cases n <;> simpa [plainD, okD] using hx
      refine isi_str (by decide) ?_
      simp [t5]
      refine eq_val hu hz ?_
      rw [if_pos rfl]
      exact endQ h
    | _ => cases n <;> simp [plainD] at hx
  | _ => cases n <;> simp [plainD] at hy
end DL
namespace DL
open PySem PySem.Spec PyProof.Rows L2
theorem plain_word (dn : Bool) (n : Nat) : plainD n (.str (wordS dn)) = true := by
  cases dn <;> cases n <;> (simp only [plainD]; decide +kernel)
theorem plain_run (dn : Bool) (r : Cell × Nat) (n : Nat) : plainD (n + 2) (runD dn r) = true := by
  have := plain_word dn (n + 1)
  simp only [plainD] at this
  simp [runD, cellD, plainD, plainDs, this]
theorem runsD_mem {F : List Cell} {d : D} (h : d ∈ runsD F) : IsRun d := by
  unfold runsD at h
  rcases List.mem_append.mp ((sortD_perm _).mem_iff.mp h) with h | h
  · exact along_run d h
  · exact along_run d h
theorem runsD_len {F : List Cell} (G : Good F) : (runsD F).length ≤ 200 := by
  unfold runsD
  rw [(sortD_perm _).length_eq, List.length_append, List.length_map, List.length_map]
  have h1 := along_len F true
  have h2 := along_len F false
  have := G.len
  omega
theorem plain_runs {F : List Cell} (G : Good F) : plainD 3 (.tup (runsD F)) = true := by
  have := runsD_len G
  simp only [plainD, Bool.and_eq_true, decide_eq_true_eq]
  refine ⟨by omega, (plainDs_iff 2 _).mpr fun d hd => ?_⟩
  obtain ⟨dn, r, rfl⟩ := runsD_mem hd
  exact plain_run dn r 0
theorem runsD_none : runsD [] = [] := by
  unfold runsD alongL sortD
  simp
theorem good0 : Good [] := ⟨List.nodup_nil, by simp, fun c hc => absurd hc (by simp)⟩
theorem good1 : Good [(3, 4)] := ⟨by simp, by simp, fun c hc => by rw [List.mem_singleton.mp hc]; exact ⟨by decide, by decide, by decide, by decide⟩⟩
theorem runsD_one : runsD [(3, 4)] = [.tup [.str "down", .tup [.int 3, .int 4], .int 1], .tup [.str "right", .tup [.int 3, .int 4], .int 1]] := by
  have e1 : alongL [(3, 4)] true = [((3, 4), 1)] := by decide +kernel
  have e2 : alongL [(3, 4)] false = [((3, 4), 1)] := by decide +kernel
  unfold runsD
  rw [e1, e2]
  refine List.mergeSort_of_pairwise ?_
  simp only [List.map_cons, List.map_nil, List.cons_append, List.nil_append, List.pairwise_cons]
  refine ⟨fun d hd => ?_, fun d hd => absurd hd (by simp), List.Pairwise.nil⟩
  rw [List.mem_singleton.mp hd]
  decide +kernel
theorem MLe.mupn {M M' : MH} {a : Addr} {o : MO} (h : MLe M M') (hn : M a = none) : MLe M (mup M' a o) := fun b u e => by
  rw [mup_ne (fun z => by rw [z, hn] at e; cases e)]
  exact h b u e
theorem MLe.none {M M' : MH} {a : Addr} (h : MLe M M') (hn : M' a = none) : M a = none := by
  cases e : M a with
  | none => rfl
  | some o => rw [h a o e] at hn; cases hn
theorem ln_law {tP : Addr} : ∀ ds M E Q, sp_law tP ds M E Q → ds.length = 1 := fun ds M E Q ⟨_, h, _⟩ => by rw [h]; rfl
theorem lw_law {tP : Addr} : ∀ ds M E Q, sp_law tP ds M E Q → rd_law (sp_all_runs tP) sp_floor sp_hand (sp_same 3) sp_runs (dEnds Q E) (dStart ["_law_script", "_law_k", "_law_hand_here", "_law_turn", "_law_floor_here", "_law_due", "_law_asking"] ds) M := by
  rintro ds M E Q ⟨ns, rfl, hl, ht, h⟩
  simp [rd_law, dStart]
  refine ⟨by omega, by omega, ?_⟩
  refine for_inv (fun rem τ M' => ∃ (o1 o2 o3 o4 o5 o6 : Option D), τ = [some (.rol (ns.map .int)), o1, o2, o3, o4, o5, o6] ∧ (∀ d ∈ rem, ∃ i : Nat, d = .int i ∧ i < 100) ∧ MLe M M')
    (fun d rem τ M' N hI next => ⟨trivial, ?_⟩) (fun τ M' hI => ⟨trivial, ?_⟩) _ _ _ ?_
  · obtain ⟨o1, o2, o3, o4, o5, o6, rfl, hd, hle⟩ := hI
    obtain ⟨k, rfl, hk⟩ := hd d List.mem_cons_self
    simp
    refine i_hand (by omega) (by omega) fun s hh hhn => go ?_
    have hM : M hh = none := hle.none hhn
    simp
    refine for_inv (fun rem2 τ M2 => ∃ (s' : Hand) (o3 o4 o5 o6 : Option D), τ = [some (.rol (ns.map .int)), some (.int k), some (.ref hh), o3, o4, o5, o6] ∧ MLe M M2 ∧ M2 hh = some (handD s'))
      (fun d2 rem2 τ M2 N2 hI next2 => ⟨trivial, ?_⟩) (fun τ M2 hI => ⟨trivial, ?_⟩) _ _ _ ?_
    · obtain ⟨s', o3, o4, o5, o6, rfl, hle2, hh2⟩ := hI
      simp
      refine i_floor hh2 fun F s2 G => go ?_
      have hle3 : MLe M (mup M2 hh (handD s2)) := hle2.mupn hM
      have hh3 : mup M2 hh (handD s2) hh = some (handD s2) := mup_same
      generalize mup M2 hh (handD s2) = M3 at hle3 hh3 ⊢
      simp
      refine i_all_runs G (hle3 _ _ ht) fun p hp => ?_
      simp
      refine go ?_
      simp
      have hle4 : MLe M (mup M3 p (.lst (runsD F))) := hle3.mupn (hle3.none hp)
      have hh4 : mup M3 p (.lst (runsD F)) hh = some (handD s2) := by rw [mup_ne (fun z => by rw [z, hp] at hh3; cases hh3)]; exact hh3
      generalize mup M3 p (.lst (runsD F)) = M4 at hle4 hh4 ⊢
      refine for_inv (fun rem3 τ M5 => ∃ (o6 : Option D), τ = [some (.rol (ns.map .int)), some (.int k), some (.ref hh), some d2, some (.tup (F.map cellD)), some (.tup (runsD F)), o6] ∧ MLe M M5 ∧ M5 hh = some (handD s2))
        (fun d3 rem3 τ M5 N3 hI next3 => ⟨trivial, ?_⟩) (fun τ M5 hI => ⟨trivial, ?_⟩) _ _ _ ?_
      · obtain ⟨o6, rfl, hle5, hh5⟩ := hI
        simp
        refine i_runs G ?_
        refine i_same (plain_runs G) (plain_runs G) (by decide) ?_
        simp
        exact Up.of (next3 _ _ ⟨_, rfl, hle5, hh5⟩)
      · obtain ⟨o6, rfl, hle5, hh5⟩ := hI
        exact Up.of (next2 _ _ ⟨_, _, _, _, _, rfl, hle5, hh5⟩)
      · exact ⟨_, rfl, hle4, hh4⟩
    · obtain ⟨s', o3, o4, o5, o6, rfl, hle2, hh2⟩ := hI
      exact Up.of (next _ _ ⟨_, _, _, _, _, _, rfl, fun d hd' => hd d (List.mem_cons_of_mem _ hd'), hle2⟩)
    · exact ⟨s, _, _, _, _, rfl, hle.mupn hM, mup_same⟩
  · obtain ⟨o1, o2, o3, o4, o5, o6, rfl, hd, hle⟩ := hI
    simp [s_go]
    refine i_runs (F := []) good0 ?_
    rw [runsD_none]
    refine eq_val (by decide) (by decide) ?_
    simp
    refine ⟨small, small, i_runs (F := [(3, 4)]) good1 ⟨small, small, small, small, small, ?_⟩⟩
    have hp := plain_runs good1
    rw [runsD_one] at hp ⊢
    refine i_same hp hp (by decide) ?_
    simp
    exact endQ (h _)
  · refine ⟨none, none, none, none, none, none, rfl, fun d hd => ?_, MLe.refl M⟩
    obtain ⟨i, hi, rfl⟩ := List.mem_map.mp hd
    have := List.mem_range.mp hi
    exact ⟨i, rfl, by omega⟩
end DL
namespace DL
open PySem PySem.Spec PyProof.Rows L2
abbrev topS (i : Nat) : Stmt := PySem.Challenge.pw_mowfloor_k11_all_runs.main.body.getD i (.Pass ⟨0, 0, 0, 0⟩)
section
variable {P : Program} {w : World} {K : PySem.W.Frag} {mg : Str → Option Value} {base : Heap}
abbrev st_step_of : Stmt := topS 3
theorem sc_step_of : FnScope ["word"] ["word"] (defScope st_step_of) := ⟨rfl, rfl, rfl, by decide +kernel, rfl, by decide +kernel, by decide +kernel⟩
theorem ok_step_of  (F : FunAt K mg "step_of" st_step_of) (g_DOWN : GlobV K mg "DOWN" gv_DOWN) : Callee P w K mg base "step_of" 1 ["word"] (sp_step_of) := by
  refine Callee.mk' F sc_step_of ln_step_of (fun _ _ _ _ _ _ us hl => match us, hl with | [_], _ => rfl) fun f cdv A outer s H E hr tk => ?_
  have hu : (bx P w K mg base ["word"] "step_of" st_step_of f cdv A outer s H E).A.units + 65 < cLine := by have := hr.un; omega
  have hv : (bx P w K mg base ["word"] "step_of" st_step_of f cdv A outer s H E).A.units + 64 < cLine := by omega
  exact ⟨rd_step_of,
    (dss_cons (ds_if (dt_cmp (do_eq hv) (de_var 0) (de_globC g_DOWN)) (dss_one (ds_ret (de_tup (da_cons de_int (da_cons de_int da_nil))))) dss_nil)
  (dss_one (ds_ret (de_tup (da_cons de_int (da_cons de_int da_nil)))))),
    lw_step_of⟩
abbrev st_moved_on : Stmt := topS 4
theorem sc_moved_on : FnScope ["cell", "step", "many"] ["cell", "step", "many"] (defScope st_moved_on) := ⟨rfl, rfl, rfl, by decide +kernel, rfl, by decide +kernel, by decide +kernel⟩
theorem ok_moved_on  (F : FunAt K mg "moved_on" st_moved_on) : Callee P w K mg base "moved_on" 1 ["cell", "step", "many"] (sp_moved_on) := by
  refine Callee.mk' F sc_moved_on ln_moved_on (fun _ _ _ _ _ _ us hl => match us, hl with | [_, _, _], _ => rfl) fun f cdv A outer s H E hr tk => ?_
  have hu : (bx P w K mg base ["cell", "step", "many"] "moved_on" st_moved_on f cdv A outer s H E).A.units + 65 < cLine := by have := hr.un; omega
  have hv : (bx P w K mg base ["cell", "step", "many"] "moved_on" st_moved_on f cdv A outer s H E).A.units + 64 < cLine := by omega
  exact ⟨rd_moved_on,
    (dss_one (ds_ret (de_tup (da_cons (de_bin do_add (de_ix hu (de_var 0) de_int) (de_bin do_mul (de_var 2) (de_ix hu (de_var 1) de_int))) (da_cons (de_bin do_add (de_ix hu (de_var 0) de_int) (de_bin do_mul (de_var 2) (de_ix hu (de_var 1) de_int))) da_nil))))),
    lw_moved_on⟩
abbrev st_runs_along : Stmt := topS 5
theorem sc_runs_along : FnScope ["floor", "word", "step", "free", "some", "cell", "many"] ["floor", "word"] (defScope st_runs_along) := ⟨rfl, rfl, rfl, by decide +kernel, rfl, by decide +kernel, by decide +kernel⟩
theorem ok_runs_along  (F : FunAt K mg "runs_along" st_runs_along) (z_dict : mg "dict" = none) (c_step_of : Callee P w K mg base "step_of" 1 ["word"] (sp_step_of)) (c_moved_on : Callee P w K mg base "moved_on" 1 ["cell", "step", "many"] (sp_moved_on)) : Callee P w K mg base "runs_along" 2 ["floor", "word"] (sp_runs_along) := by
  refine Callee.mk' F sc_runs_along ln_runs_along (fun _ _ _ _ _ _ us hl => match us, hl with | [_, _], _ => rfl) fun f cdv A outer s H E hr tk => ?_
  have hu : (bx P w K mg base ["floor", "word", "step", "free", "some", "cell", "many"] "runs_along" st_runs_along f cdv A outer s H E).A.units + 65 < cLine := by have := hr.un; omega
  have hv : (bx P w K mg base ["floor", "word", "step", "free", "some", "cell", "many"] "runs_along" st_runs_along f cdv A outer s H E).A.units + 64 < cLine := by omega
  exact ⟨rd_runs_along (sp_moved_on) (sp_step_of),
    (dss_cons (ds_set 2 sc_runs_along.nd (de_callC c_step_of hr tk (da_cons (de_var 1) da_nil)))
  (dss_cons (ds_set 3 sc_runs_along.nd (de_callTy (do_dict rfl hu) z_dict (by decide +kernel) (da_cons (de_lc [("cell", 5)] rfl sc_runs_along.nd (di_seq (de_var 0)) (by rfl) (fun _ _ _ _ _ => (dg_name 5 sc_runs_along.nd)) (fun _ _ _ _ _ => dts_nil) (fun _ _ _ _ _ => (de_tup (da_cons (de_var 5) (da_cons de_bl da_nil))))) da_nil)))
  (dss_cons (ds_set 4 sc_runs_along.nd (de_lst da_nil))
  (dss_cons (ds_for PassesOwn.leaving rfl (di_seq (de_var 0)) (dg_name 5 sc_runs_along.nd) (dss_one (ds_if (dt_cmp (do_notin hu) (de_callC c_moved_on hr tk (da_cons (de_var 5) (da_cons (de_var 2) (da_cons (de_neg de_int) da_nil)))) (de_var 3)) (dss_cons (ds_set 6 sc_runs_along.nd de_int)
  (dss_cons (ds_while PassesOwn.leaving (dt_cmp (do_in hu) (de_callC c_moved_on hr tk (da_cons (de_var 5) (da_cons (de_var 2) (da_cons (de_var 6) da_nil)))) (de_var 3)) (dss_one (ds_aug 6 sc_runs_along.nd de_int do_iadd)))
  (dss_one (ds_expr (de_bm PySem.F.plainAttrs_list PySem.F.slot_list_append PySem.F.type_list_append dm_append (de_var 4) (da_cons (de_tup (da_cons (de_var 1) (da_cons (de_var 5) (da_cons (de_var 6) da_nil)))) da_nil)))))) dss_nil)))
  (dss_one (ds_ret (de_var 4))))))),
    lw_runs_along⟩
abbrev st_runs : Stmt := topS 6
theorem sc_runs : FnScope ["floor"] ["floor"] (defScope st_runs) := ⟨rfl, rfl, rfl, by decide +kernel, rfl, by decide +kernel, by decide +kernel⟩
theorem ok_runs  (F : FunAt K mg "runs" st_runs) (z_tuple : mg "tuple" = none) (z_sorted : mg "sorted" = none) (g_DOWN : GlobV K mg "DOWN" gv_DOWN) (g_RIGHT : GlobV K mg "RIGHT" gv_RIGHT) (c_runs_along : Callee P w K mg base "runs_along" 2 ["floor", "word"] (sp_runs_along)) : Callee P w K mg base "runs" 3 ["floor"] (sp_runs) := by
  refine Callee.mk' F sc_runs ln_runs (fun _ _ _ _ _ _ us hl => match us, hl with | [_], _ => rfl) fun f cdv A outer s H E hr tk => ?_
  have hu : (bx P w K mg base ["floor"] "runs" st_runs f cdv A outer s H E).A.units + 65 < cLine := by have := hr.un; omega
  have hv : (bx P w K mg base ["floor"] "runs" st_runs f cdv A outer s H E).A.units + 64 < cLine := by omega
  exact ⟨rd_runs (sp_runs_along),
    (dss_one (ds_ret (de_callTy do_tuple z_tuple (by decide +kernel) (da_cons (de_callB (do_sorted hv) z_sorted (by decide +kernel) (da_cons (de_bin do_add (de_callC c_runs_along hr tk (da_cons (de_var 0) (da_cons (de_globC g_DOWN) da_nil))) (de_callC c_runs_along hr tk (da_cons (de_var 0) (da_cons (de_globC g_RIGHT) da_nil)))) da_nil)) da_nil)))),
    lw_runs⟩
abbrev st_cell_at : Stmt := topS 8
theorem sc_cell_at : FnScope ["_law_script", "_law_k"] ["_law_script", "_law_k"] (defScope st_cell_at) := ⟨rfl, rfl, rfl, by decide +kernel, rfl, by decide +kernel, by decide +kernel⟩
theorem ok_cell_at  (F : FunAt K mg "_law_cell_at" st_cell_at) (z_len : mg "len" = none) : Callee P w K mg base "_law_cell_at" 1 ["_law_script", "_law_k"] (sp_cell_at) := by
  refine Callee.mk' F sc_cell_at ln_cell_at (fun _ _ _ _ _ _ us hl => match us, hl with | [_, _], _ => rfl) fun f cdv A outer s H E hr tk => ?_
  have hu : (bx P w K mg base ["_law_script", "_law_k"] "_law_cell_at" st_cell_at f cdv A outer s H E).A.units + 65 < cLine := by have := hr.un; omega
  have hv : (bx P w K mg base ["_law_script", "_law_k"] "_law_cell_at" st_cell_at f cdv A outer s H E).A.units + 64 < cLine := by omega
  exact ⟨rd_cell_at,
    (dss_cons (ds_if (dt_cmp (do_lt hv) (de_var 1) (de_callB do_len z_len PySem.boot_len (da_cons (de_var 0) da_nil))) (dss_one (ds_ret (de_ix hu (de_var 0) (de_var 1)))) dss_nil)
  (dss_one (ds_ret de_int))),
    lw_cell_at⟩
abbrev st_hand : Stmt := topS 9
theorem sc_hand : FnScope ["_law_script", "_law_k", "_law_cell", "_law_bound", "_law_seed"] ["_law_script", "_law_k"] (defScope st_hand) := ⟨rfl, rfl, rfl, by decide +kernel, rfl, by decide +kernel, by decide +kernel⟩
theorem ok_hand  (F : FunAt K mg "_law_hand" st_hand) (z_int : mg "int" = none) (c_cell_at : Callee P w K mg base "_law_cell_at" 1 ["_law_script", "_law_k"] (sp_cell_at)) : Callee P w K mg base "_law_hand" 2 ["_law_script", "_law_k"] (sp_hand) := by
  refine Callee.mk' F sc_hand ln_hand (fun _ _ _ _ _ _ us hl => match us, hl with | [_, _], _ => rfl) fun f cdv A outer s H E hr tk => ?_
  have hu : (bx P w K mg base ["_law_script", "_law_k", "_law_cell", "_law_bound", "_law_seed"] "_law_hand" st_hand f cdv A outer s H E).A.units + 65 < cLine := by have := hr.un; omega
  have hv : (bx P w K mg base ["_law_script", "_law_k", "_law_cell", "_law_bound", "_law_seed"] "_law_hand" st_hand f cdv A outer s H E).A.units + 64 < cLine := by omega
  exact ⟨rd_hand (sp_cell_at),
    (dss_cons (ds_set 2 sc_hand.nd (de_callC c_cell_at hr tk (da_cons (de_var 0) (da_cons (de_var 1) da_nil))))
  (dss_cons (ds_set 3 sc_hand.nd (de_bin do_mul (de_bin do_mul (de_bin do_pow de_int de_int) (de_bin do_pow de_int de_int)) (de_bin do_pow de_int de_int)))
  (dss_cons (ds_set 4 sc_hand.nd (de_bin do_mod (de_bin do_mul (de_bin do_add (de_bin do_add (de_bin do_mod (de_var 2) de_int) (de_bin do_mul (de_bin do_mul de_int (de_var 1)) (de_var 1))) de_int) de_int) de_int))
  (dss_one (ds_ret (de_lst (da_cons (de_bin do_mul (de_bin do_mod (de_var 2) (de_var 3)) (de_callTy do_intc z_int (by decide +kernel) (da_cons (de_cmp (do_ge hv) (de_var 2) (de_bin do_pow de_int de_int)) da_nil))) (da_cons (de_var 4) (da_cons de_int da_nil))))))))),
    lw_hand⟩
abbrev st_pick : Stmt := topS 10
theorem sc_pick : FnScope ["_law_hand_here", "_law_many", "_law_digit"] ["_law_hand_here", "_law_many"] (defScope st_pick) := ⟨rfl, rfl, rfl, by decide +kernel, rfl, by decide +kernel, by decide +kernel⟩
theorem ok_pick  (F : FunAt K mg "_law_pick" st_pick) : Callee P w K mg base "_law_pick" 1 ["_law_hand_here", "_law_many"] (sp_pick) := by
  refine Callee.mk' F sc_pick ln_pick (fun _ _ _ _ _ _ us hl => match us, hl with | [_, _], _ => rfl) fun f cdv A outer s H E hr tk => ?_
  have hu : (bx P w K mg base ["_law_hand_here", "_law_many", "_law_digit"] "_law_pick" st_pick f cdv A outer s H E).A.units + 65 < cLine := by have := hr.un; omega
  have hv : (bx P w K mg base ["_law_hand_here", "_law_many", "_law_digit"] "_law_pick" st_pick f cdv A outer s H E).A.units + 64 < cLine := by omega
  exact ⟨rd_pick,
    (dss_cons (ds_if (dt_cmp (do_gt hv) (de_ix hu (de_var 0) de_int) de_int) (dss_cons (ds_set 2 sc_pick.nd (de_bin do_mod (de_ix hu (de_var 0) de_int) (de_var 1)))
  (dss_cons (ds_asg (de_bin do_fdiv (de_ix hu (de_var 0) de_int) (de_var 1)) (dg_sub (de_var 0) de_int (do_set hu)))
  (dss_one (ds_ret (de_var 2))))) dss_nil)
  (dss_cons (ds_asg (de_bin do_add (de_ix hu (de_var 0) de_int) de_int) (dg_sub (de_var 0) de_int (do_set hu)))
  (dss_cons (ds_asg (de_bin do_mod (de_bin do_add (de_bin do_add (de_bin do_mul (de_ix hu (de_var 0) de_int) de_int) de_int) (de_bin do_mul de_int (de_ix hu (de_var 0) de_int))) de_int) (dg_sub (de_var 0) de_int (do_set hu)))
  (dss_one (ds_ret (de_bin do_mod (de_bin do_fdiv (de_bin do_mod (de_bin do_mul (de_ix hu (de_var 0) de_int) (de_ix hu (de_var 0) de_int)) de_int) de_int) (de_var 1))))))),
    lw_pick⟩
abbrev st_grown : Stmt := topS 12
theorem sc_grown : FnScope ["_law_hand_here", "_law_many", "_law_some", "_law_turn", "_law_row", "_law_column", "_law_down", "_law_right", "_law_cell"] ["_law_hand_here", "_law_many"] (defScope st_grown) := ⟨rfl, rfl, rfl, by decide +kernel, rfl, by decide +kernel, by decide +kernel⟩
theorem ok_grown  (F : FunAt K mg "_law_grown" st_grown) (z_range : mg "range" = none) (z_tuple : mg "tuple" = none) (z_sorted : mg "sorted" = none) (z_len : mg "len" = none) (c_pick : Callee P w K mg base "_law_pick" 1 ["_law_hand_here", "_law_many"] (sp_pick)) : Callee P w K mg base "_law_grown" 2 ["_law_hand_here", "_law_many"] (sp_grown) := by
  refine Callee.mk' F sc_grown ln_grown (fun _ _ _ _ _ _ us hl => match us, hl with | [_, _], _ => rfl) fun f cdv A outer s H E hr tk => ?_
  have hu : (bx P w K mg base ["_law_hand_here", "_law_many", "_law_some", "_law_turn", "_law_row", "_law_column", "_law_down", "_law_right", "_law_cell"] "_law_grown" st_grown f cdv A outer s H E).A.units + 65 < cLine := by have := hr.un; omega
  have hv : (bx P w K mg base ["_law_hand_here", "_law_many", "_law_some", "_law_turn", "_law_row", "_law_column", "_law_down", "_law_right", "_law_cell"] "_law_grown" st_grown f cdv A outer s H E).A.units + 64 < cLine := by omega
  exact ⟨rd_grown (sp_pick),
    (dss_cons (ds_set 2 sc_grown.nd (de_lst (da_cons (de_tup (da_cons (de_callC c_pick hr tk (da_cons (de_var 0) (da_cons de_int da_nil))) (da_cons (de_callC c_pick hr tk (da_cons (de_var 0) (da_cons de_int da_nil))) da_nil))) da_nil)))
  (dss_cons (ds_for PassesOwn.leaving rfl (di_range1 z_range (da_cons (de_bin do_mul de_int (de_var 1)) da_nil)) (dg_name 3 sc_grown.nd) (dss_cons (ds_asg (de_ix hu (de_var 2) (de_callC c_pick hr tk (da_cons (de_var 0) (da_cons (de_callB do_len z_len PySem.boot_len (da_cons (de_var 2) da_nil)) da_nil)))) (dg_tup rfl (dgs_cons (dg_name 4 sc_grown.nd) (dgs_cons (dg_name 5 sc_grown.nd) dgs_nil))))
  (dss_cons (ds_if (dt_cmp (do_eq hv) (de_callC c_pick hr tk (da_cons (de_var 0) (da_cons de_int da_nil))) de_int) (dss_one (ds_asg (de_ix hu (de_var 2) (de_neg de_int)) (dg_tup rfl (dgs_cons (dg_name 4 sc_grown.nd) (dgs_cons (dg_name 5 sc_grown.nd) dgs_nil))))) dss_nil)
  (dss_cons (ds_asg (de_ix hu (de_lst (da_cons (de_tup (da_cons de_int (da_cons de_int da_nil))) (da_cons (de_tup (da_cons de_int (da_cons de_int da_nil))) (da_cons (de_tup (da_cons de_int (da_cons (de_neg de_int) da_nil))) (da_cons (de_tup (da_cons (de_neg de_int) (da_cons de_int da_nil))) da_nil))))) (de_callC c_pick hr tk (da_cons (de_var 0) (da_cons de_int da_nil)))) (dg_tup rfl (dgs_cons (dg_name 6 sc_grown.nd) (dgs_cons (dg_name 7 sc_grown.nd) dgs_nil))))
  (dss_cons (ds_set 8 sc_grown.nd (de_tup (da_cons (de_bin do_add (de_var 4) (de_var 6)) (da_cons (de_bin do_add (de_var 5) (de_var 7)) da_nil))))
  (dss_one (ds_if ((dw_and (dt_cmp (do_notin hu) (de_var 8) (de_var 2)) (dw_and (dt_cmp (do_lt hv) (de_callB do_len z_len PySem.boot_len (da_cons (de_var 2) da_nil)) (de_var 1)) (dw_and (dt_chain (do_le hv) (do_le hv) de_int (de_ix hu (de_var 8) de_int) de_int) (dw_and1 (dt_chain (do_le hv) (do_le hv) de_int (de_ix hu (de_var 8) de_int) de_int)))))).dt (dss_one (ds_expr (de_bm PySem.F.plainAttrs_list PySem.F.slot_list_append PySem.F.type_list_append dm_append (de_var 2) (da_cons (de_var 8) da_nil)))) dss_nil)))))))
  (dss_one (ds_ret (de_callTy do_tuple z_tuple (by decide +kernel) (da_cons (de_callB (do_sorted hv) z_sorted (by decide +kernel) (da_cons (de_var 2) da_nil)) da_nil)))))),
    lw_grown⟩
abbrev st_floor : Stmt := topS 11
theorem sc_floor : FnScope ["_law_hand_here", "_law_way", "_law_high", "_law_wide", "_law_row", "_law_column", "_law_some", "_law_often", "_law_k", "_law_cell"] ["_law_hand_here"] (defScope st_floor) := ⟨rfl, rfl, rfl, by decide +kernel, rfl, by decide +kernel, by decide +kernel⟩
theorem ok_floor  (F : FunAt K mg "_law_floor" st_floor) (z_tuple : mg "tuple" = none) (z_range : mg "range" = none) (c_pick : Callee P w K mg base "_law_pick" 1 ["_law_hand_here", "_law_many"] (sp_pick)) (c_grown : Callee P w K mg base "_law_grown" 2 ["_law_hand_here", "_law_many"] (sp_grown)) : Callee P w K mg base "_law_floor" 3 ["_law_hand_here"] (sp_floor) := by
  refine Callee.mk' F sc_floor ln_floor (fun _ _ _ _ _ _ us hl => match us, hl with | [_], _ => rfl) fun f cdv A outer s H E hr tk => ?_
  have hu : (bx P w K mg base ["_law_hand_here", "_law_way", "_law_high", "_law_wide", "_law_row", "_law_column", "_law_some", "_law_often", "_law_k", "_law_cell"] "_law_floor" st_floor f cdv A outer s H E).A.units + 65 < cLine := by have := hr.un; omega
  have hv : (bx P w K mg base ["_law_hand_here", "_law_way", "_law_high", "_law_wide", "_law_row", "_law_column", "_law_some", "_law_often", "_law_k", "_law_cell"] "_law_floor" st_floor f cdv A outer s H E).A.units + 64 < cLine := by omega
  exact ⟨rd_floor (sp_grown) (sp_pick),
    (dss_cons (ds_set 1 sc_floor.nd (de_callC c_pick hr tk (da_cons (de_var 0) (da_cons de_int da_nil))))
  (dss_cons (ds_asg (de_tup (da_cons (de_bin do_add de_int (de_callC c_pick hr tk (da_cons (de_var 0) (da_cons de_int da_nil)))) (da_cons (de_bin do_add de_int (de_callC c_pick hr tk (da_cons (de_var 0) (da_cons de_int da_nil)))) da_nil))) (dg_tup rfl (dgs_cons (dg_name 2 sc_floor.nd) (dgs_cons (dg_name 3 sc_floor.nd) dgs_nil))))
  (dss_cons (ds_if (dt_cmp (do_eq hv) (de_callC c_pick hr tk (da_cons (de_var 0) (da_cons de_int da_nil))) de_int) (dss_one (ds_asg (de_ix hu (de_lst (da_cons (de_tup (da_cons de_int (da_cons de_int da_nil))) (da_cons (de_tup (da_cons de_int (da_cons de_int da_nil))) (da_cons (de_tup (da_cons de_int (da_cons de_int da_nil))) (da_cons (de_tup (da_cons de_int (da_cons de_int da_nil))) da_nil))))) (de_callC c_pick hr tk (da_cons (de_var 0) (da_cons de_int da_nil)))) (dg_tup rfl (dgs_cons (dg_name 2 sc_floor.nd) (dgs_cons (dg_name 3 sc_floor.nd) dgs_nil))))) dss_nil)
  (dss_cons (ds_asg (de_tup (da_cons (de_callC c_pick hr tk (da_cons (de_var 0) (da_cons (de_bin do_sub de_int (de_var 2)) da_nil))) (da_cons (de_callC c_pick hr tk (da_cons (de_var 0) (da_cons (de_bin do_sub de_int (de_var 3)) da_nil))) da_nil))) (dg_tup rfl (dgs_cons (dg_name 4 sc_floor.nd) (dgs_cons (dg_name 5 sc_floor.nd) dgs_nil))))
  (dss_cons (ds_setLc 6 [("_law_k", 8)] rfl sc_floor.nd (sw_true rfl rfl rfl (by decide +kernel)) (di_range1 z_range (da_cons (de_bin do_mul (de_var 2) (de_var 3)) da_nil)) (by rfl) (fun _ _ _ _ _ => (dg_name 8 sc_floor.nd)) (fun _ _ _ _ _ => dts_nil) (fun _ _ _ _ _ => (de_tup (da_cons (de_bin do_add (de_var 4) (de_bin do_fdiv (de_var 8) (de_var 3))) (da_cons (de_bin do_add (de_var 5) (de_bin do_mod (de_var 8) (de_var 3))) da_nil)))))
  (dss_cons (ds_if (dt_cmp (do_lt hv) (de_var 1) de_int) (dss_one (ds_ret (de_callTy do_tuple z_tuple (by decide +kernel) (da_cons (de_var 6) da_nil)))) dss_nil)
  (dss_cons (ds_if (dt_cmp (do_lt hv) (de_var 1) de_int) (dss_cons (ds_set 7 sc_floor.nd (de_ix hu (de_lst (da_cons de_int (da_cons de_int (da_cons de_int (da_cons de_int da_nil))))) (de_callC c_pick hr tk (da_cons (de_var 0) (da_cons de_int da_nil)))))
  (dss_one (ds_ret (de_callTy do_tuple z_tuple (by decide +kernel) (da_cons (de_lc [("_law_cell", 9)] rfl sc_floor.nd (di_seq (de_var 6)) (by rfl) (fun _ _ _ _ _ => (dg_name 9 sc_floor.nd)) (fun _ _ _ _ _ => (dts_one (dt_cmp (do_gt hv) (de_callC c_pick hr takes0 (da_cons (de_var 0) (da_cons (de_var 7) da_nil))) de_int))) (fun _ _ _ _ _ => (de_var 9))) da_nil))))) dss_nil)
  (dss_one (ds_ret (de_callC c_grown hr tk (da_cons (de_var 0) (da_cons (de_bin do_add de_int (de_callC c_pick hr tk (da_cons (de_var 0) (da_cons (de_ix hu (de_lst (da_cons de_int (da_cons de_int (da_cons de_int da_nil)))) (de_callC c_pick hr tk (da_cons (de_var 0) (da_cons de_int da_nil)))) da_nil)))) da_nil)))))))))))),
    lw_floor⟩
abbrev st_runs_of : Stmt := topS 13
theorem sc_runs_of : FnScope ["_law_floor_here", "_law_word", "_law_some", "_law_cell", "_law_ahead", "_law_one"] ["_law_floor_here", "_law_word"] (defScope st_runs_of) := ⟨rfl, rfl, rfl, by decide +kernel, rfl, by decide +kernel, by decide +kernel⟩
theorem ok_runs_of  {cA tP : Addr} (TB : LamX.TabB base mg cA tP) (F : FunAtC K mg "_law_runs_of" st_runs_of cA) (z_sorted : mg "sorted" = none) (z_len : mg "len" = none) (z_int : mg "int" = none) : Callee P w K mg base "_law_runs_of" 1 ["_law_floor_here", "_law_word"] (sp_runs_of tP) := by
  refine Callee.mkC F sc_runs_of ln_runs_of (fun _ _ _ _ _ _ us hl => match us, hl with | [_, _], _ => rfl) fun f A outer s H E hr tk => ?_
  have hu : (bx P w K mg base ["_law_floor_here", "_law_word", "_law_some", "_law_cell", "_law_ahead", "_law_one"] "_law_runs_of" st_runs_of f (.ref cA) A outer s H E).A.units + 65 < cLine := by have := hr.un; omega
  have hv : (bx P w K mg base ["_law_floor_here", "_law_word", "_law_some", "_law_cell", "_law_ahead", "_law_one"] "_law_runs_of" st_runs_of f (.ref cA) A outer s H E).A.units + 64 < cLine := by omega
  exact ⟨rd_runs_of tP,
    (dss_cons (ds_set 2 sc_runs_of.nd (de_lst da_nil))
  (dss_cons (ds_for PassesOwn.leaving rfl (di_seq (de_sortLam TB rfl rfl hr z_sorted z_int (i := 0) (j := 1) rfl rfl (by first | exact Or.inl rfl | exact Or.inr (Or.inl rfl)) rfl rfl (hfr_by (by rfl)) (fun _ _ _ _ _ _ => rfl) rfl rfl rfl (by decide +kernel) rfl rfl rfl (by decide +kernel) (by decide +kernel) (by decide +kernel) (by decide +kernel) (by decide +kernel))) (dg_name 3 sc_runs_of.nd) (dss_cons (ds_set 4 sc_runs_of.nd (de_tup (da_cons (de_bin do_sub (de_ix hu (de_var 3) de_int) (de_callTy do_intc z_int (by decide +kernel) (da_cons (de_cmp (do_eq hv) (de_var 1) de_str) da_nil))) (da_cons (de_bin do_sub (de_ix hu (de_var 3) de_int) (de_callTy do_intc z_int (by decide +kernel) (da_cons (de_cmp (do_eq hv) (de_var 1) de_str) da_nil))) da_nil))))
  (dss_one (ds_if ((dw_and (dt_cmp (do_neL hv) (de_var 2) (de_lst da_nil)) (dw_and1 (dt_cmp (do_eq hv) (de_ix hu (de_ix hu (de_var 2) (de_neg de_int)) (de_neg de_int)) (de_var 4))))).dt (dss_one (ds_expr (de_bm PySem.F.plainAttrs_list PySem.F.slot_list_append PySem.F.type_list_append dm_append (de_ix hu (de_var 2) (de_neg de_int)) (da_cons (de_var 3) da_nil)))) (dss_one (ds_expr (de_bm PySem.F.plainAttrs_list PySem.F.slot_list_append PySem.F.type_list_append dm_append (de_var 2) (da_cons (de_lst (da_cons (de_var 3) da_nil)) da_nil))))))))
  (dss_one (ds_ret (de_lc [("_law_one", 5)] rfl sc_runs_of.nd (di_seq (de_var 2)) (by rfl) (fun _ _ _ _ _ => (dg_name 5 sc_runs_of.nd)) (fun _ _ _ _ _ => dts_nil) (fun _ _ _ _ _ => (de_tup (da_cons (de_var 1) (da_cons (de_ix hu (de_var 5) de_int) (da_cons (de_callB do_len z_len PySem.boot_len (da_cons (de_var 5) da_nil)) da_nil)))))))))),
    lw_runs_of⟩
abbrev st_all_runs : Stmt := topS 14
theorem sc_all_runs : FnScope ["_law_floor_here"] ["_law_floor_here"] (defScope st_all_runs) := ⟨rfl, rfl, rfl, by decide +kernel, rfl, by decide +kernel, by decide +kernel⟩
theorem ok_all_runs {tP : Addr} (F : FunAt K mg "_law_all_runs" st_all_runs) (z_sorted : mg "sorted" = none) (c_runs_of : Callee P w K mg base "_law_runs_of" 1 ["_law_floor_here", "_law_word"] (sp_runs_of tP)) : Callee P w K mg base "_law_all_runs" 2 ["_law_floor_here"] (sp_all_runs tP) := by
  refine Callee.mk' F sc_all_runs ln_all_runs (fun _ _ _ _ _ _ us hl => match us, hl with | [_], _ => rfl) fun f cdv A outer s H E hr tk => ?_
  have hu : (bx P w K mg base ["_law_floor_here"] "_law_all_runs" st_all_runs f cdv A outer s H E).A.units + 65 < cLine := by have := hr.un; omega
  have hv : (bx P w K mg base ["_law_floor_here"] "_law_all_runs" st_all_runs f cdv A outer s H E).A.units + 64 < cLine := by omega
  exact ⟨rd_all_runs (sp_runs_of tP),
    (dss_one (ds_ret (de_callB (do_sorted hv) z_sorted (by decide +kernel) (da_cons (de_bin do_add (de_callC c_runs_of hr tk (da_cons (de_var 0) (da_cons de_str da_nil))) (de_callC c_runs_of hr tk (da_cons (de_var 0) (da_cons de_str da_nil)))) da_nil)))),
    lw_all_runs⟩
abbrev st_same : Stmt := topS 15
theorem sc_same : FnScope ["_law_got", "_law_due", "_law_one", "_law_other"] ["_law_got", "_law_due"] (defScope st_same) := ⟨rfl, rfl, rfl, by decide +kernel, rfl, by decide +kernel, by decide +kernel⟩
theorem ok_same {n : Nat} (F : FunAt K mg "_law_same" st_same) (z_isinstance : mg "isinstance" = none) (z_tuple : mg "tuple" = none) (z_str : mg "str" = none) (z_all : mg "all" = none) (z_int : mg "int" = none) (z_bool : mg "bool" = none) (z_len : mg "len" = none) (z_zip : mg "zip" = none) (c_same : Callee P w K mg base "_law_same" (n + 1) ["_law_got", "_law_due"] (sp_same0 n)) : Callee P w K mg base "_law_same" (n + 2) ["_law_got", "_law_due"] (sp_same n) := by
  refine Callee.mk' F sc_same ln_same (fun _ _ _ _ _ _ us hl => match us, hl with | [_, _], _ => rfl) fun f cdv A outer s H E hr tk => ?_
  have hu : (bx P w K mg base ["_law_got", "_law_due", "_law_one", "_law_other"] "_law_same" st_same f cdv A outer s H E).A.units + 65 < cLine := by have := hr.un; omega
  have hv : (bx P w K mg base ["_law_got", "_law_due", "_law_one", "_law_other"] "_law_same" st_same f cdv A outer s H E).A.units + 64 < cLine := by omega
  exact ⟨rd_same (sp_same0 n),
    (dss_cons (ds_if (dt_val (de_callB do_isinst z_isinstance (by decide +kernel) (da_cons (de_var 1) (da_cons (de_bty z_tuple (by decide +kernel)) da_nil)))) (dss_cons (ds_if ((dw_or (dt_not (dt_val (de_callB do_isinst z_isinstance (by decide +kernel) (da_cons (de_var 0) (da_cons (de_bty z_tuple (by decide +kernel)) da_nil))))) (dw_or1 (dt_cmp (do_ne hv) (de_callB do_len z_len PySem.boot_len (da_cons (de_var 0) da_nil)) (de_callB do_len z_len PySem.boot_len (da_cons (de_var 1) da_nil)))))).dt (dss_one (ds_ret de_bl)) dss_nil)
  (dss_one (ds_ret (de_callB (do_all rfl) z_all (by decide +kernel) (da_cons (de_lc [("_law_one", 2), ("_law_other", 3)] rfl sc_same.nd (di_zip z_zip (da_cons (de_var 0) (da_cons (de_var 1) da_nil))) (by rfl) (fun _ _ _ _ _ => (dg_tup rfl (dgs_cons (dg_name 2 sc_same.nd) (dgs_cons (dg_name 3 sc_same.nd) dgs_nil)))) (fun _ _ _ _ _ => dts_nil) (fun _ _ _ _ _ => (de_callC c_same hr takes0 (da_cons (de_var 2) (da_cons (de_var 3) da_nil)) (hk := Nat.le_refl _)))) da_nil))))) dss_nil)
  (dss_cons (ds_if (dt_val (de_callB do_isinst z_isinstance (by decide +kernel) (da_cons (de_var 1) (da_cons (de_bty z_str (by decide +kernel)) da_nil)))) (dss_one (ds_ret (de_and (de_callB do_isinst z_isinstance (by decide +kernel) (da_cons (de_var 0) (da_cons (de_bty z_str (by decide +kernel)) da_nil))) (de_one (de_cmp (do_eq hv) (de_var 0) (de_var 1)))))) dss_nil)
  (dss_one (ds_ret (de_and (de_callB do_isinst z_isinstance (by decide +kernel) (da_cons (de_var 0) (da_cons (de_bty z_int (by decide +kernel)) da_nil))) (de_and (de_not (de_callB do_isinst z_isinstance (by decide +kernel) (da_cons (de_var 0) (da_cons (de_bty z_bool (by decide +kernel)) da_nil)))) (de_one (de_cmp (do_eq hv) (de_var 0) (de_var 1))))))))),
    lw_same⟩
abbrev st_law : Stmt := topS 16
theorem sc_law : FnScope ["_law_script", "_law_k", "_law_hand_here", "_law_turn", "_law_floor_here", "_law_due", "_law_asking"] ["_law_script"] (defScope st_law) := ⟨rfl, rfl, rfl, by decide +kernel, rfl, by decide +kernel, by decide +kernel⟩
theorem ok_law {tP : Addr} {fa : Addr} {fd : FuncData} (F : Fun K "law" "law" st_law fa fd) (z_range : mg "range" = none) (z_max : mg "max" = none) (z_min : mg "min" = none) (z_tuple : mg "tuple" = none) (z_len : mg "len" = none) (c_hand : Callee P w K mg base "_law_hand" 2 ["_law_script", "_law_k"] (sp_hand)) (c_same : Callee P w K mg base "_law_same" 5 ["_law_got", "_law_due"] (sp_same 3)) (c_floor : Callee P w K mg base "_law_floor" 3 ["_law_hand_here"] (sp_floor)) (c_runs : Callee P w K mg base "runs" 3 ["floor"] (sp_runs)) (c_all_runs : Callee P w K mg base "_law_all_runs" 2 ["_law_floor_here"] (sp_all_runs tP)) : DFn P w K mg base 6 fa fd ["_law_script"] (sp_law tP) := by
  refine DFn.mk F sc_law ln_law fun cdv A outer s H E hr tk => ?_
  have hu : (bx P w K mg base ["_law_script", "_law_k", "_law_hand_here", "_law_turn", "_law_floor_here", "_law_due", "_law_asking"] "law" st_law fa cdv A outer s H E).A.units + 65 < cLine := by have := hr.un; omega
  have hv : (bx P w K mg base ["_law_script", "_law_k", "_law_hand_here", "_law_turn", "_law_floor_here", "_law_due", "_law_asking"] "law" st_law fa cdv A outer s H E).A.units + 64 < cLine := by omega
  exact ⟨rd_law (sp_all_runs tP) (sp_floor) (sp_hand) (sp_same 3) (sp_runs),
    (dss_cons (ds_for PassesOwn.leaving rfl (di_range1 z_range (da_cons (de_callB (do_max2 rfl) z_max (by decide +kernel) (da_cons de_int (da_cons (de_callB (do_min2 rfl) z_min (by decide +kernel) (da_cons de_int (da_cons (de_callB do_len z_len PySem.boot_len (da_cons (de_var 0) da_nil)) da_nil))) da_nil))) da_nil)) (dg_name 1 sc_law.nd) (dss_cons (ds_set 2 sc_law.nd (de_callC c_hand hr tk (da_cons (de_var 0) (da_cons (de_var 1) da_nil))))
  (dss_one (ds_for PassesOwn.leaving rfl (di_range1 z_range (da_cons de_int da_nil)) (dg_name 3 sc_law.nd) (dss_cons (ds_set 4 sc_law.nd (de_callC c_floor hr tk (da_cons (de_var 2) da_nil)))
  (dss_cons (ds_set 5 sc_law.nd (de_callTy do_tuple z_tuple (by decide +kernel) (da_cons (de_callC c_all_runs hr tk (da_cons (de_var 4) da_nil)) da_nil)))
  (dss_one (ds_for PassesOwn.leaving rfl (di_range1 z_range (da_cons de_int da_nil)) (dg_name 6 sc_law.nd) (dss_one (ds_if (dt_not (dt_val (de_callC c_same hr tk (da_cons (de_callC c_runs hr tk (da_cons (de_var 4) da_nil)) (da_cons (de_var 5) da_nil))))) (dss_one (ds_ret de_bl)) dss_nil))))))))))
  (dss_one (ds_ret (de_and (de_cmp (do_eq hv) (de_callC c_runs hr tk (da_cons (de_tup da_nil) da_nil)) (de_tup da_nil)) (de_one (de_callC c_same hr tk (da_cons (de_callC c_runs hr tk (da_cons (de_tup (da_cons (de_tup (da_cons de_int (da_cons de_int da_nil))) da_nil)) da_nil)) (da_cons (de_tup (da_cons (de_tup (da_cons de_str (da_cons (de_tup (da_cons de_int (da_cons de_int da_nil))) (da_cons de_int da_nil)))) (da_cons (de_tup (da_cons de_str (da_cons (de_tup (da_cons de_int (da_cons de_int da_nil))) (da_cons de_int da_nil)))) da_nil))) da_nil)))))))),
    lw_law⟩
end
end DL
namespace DL
open PySem PySem.Spec PyProof.Rows L2
theorem all_mk {l : PySem.W.OpenLaw} {w : World} {K : PySem.W.Frag} {h : Heap} {mg : Str → Option Value} {fa : Addr} (X : K.In h) (G : h.Ns mainGlobals mg) (hfa : mg "law" = some (.ref fa)) (own : ∀ f2, mg "_law_runs_of" = some (.ref f2) → LamX.OwnTab K f2 h) {cA tP : Addr} 
    {f1 : Addr} {od1 an1 : Option Addr} {sl1 : Array (Option Value)} {oc1 kV1 dc1 pm1 cd1 ct1 : Value}
    (a1 : PySem.W.nsIn K mainGlobals "step_of" = some (some (.ref f1))) (l1 : K.lookup f1 = some ⟨oc1, od1, .func (PySem.W.fnOf "step_of" "step_of" (defArgs st_step_of) (defBody st_step_of) (defScope st_step_of) .none kV1 dc1 pm1 an1 cd1 ct1), sl1⟩) (c1 : PySem.W.codeIn K cd1 "step_of" = true) (k1 : PySem.W.keepIn K (.ref f1) = true)
    {f2 : Addr} {od2 an2 : Option Addr} {sl2 : Array (Option Value)} {oc2 kV2 dc2 pm2 cd2 ct2 : Value}
    (a2 : PySem.W.nsIn K mainGlobals "moved_on" = some (some (.ref f2))) (l2 : K.lookup f2 = some ⟨oc2, od2, .func (PySem.W.fnOf "moved_on" "moved_on" (defArgs st_moved_on) (defBody st_moved_on) (defScope st_moved_on) .none kV2 dc2 pm2 an2 cd2 ct2), sl2⟩) (c2 : PySem.W.codeIn K cd2 "moved_on" = true) (k2 : PySem.W.keepIn K (.ref f2) = true)
    {f3 : Addr} {od3 an3 : Option Addr} {sl3 : Array (Option Value)} {oc3 kV3 dc3 pm3 cd3 ct3 : Value}
    (a3 : PySem.W.nsIn K mainGlobals "runs_along" = some (some (.ref f3))) (l3 : K.lookup f3 = some ⟨oc3, od3, .func (PySem.W.fnOf "runs_along" "runs_along" (defArgs st_runs_along) (defBody st_runs_along) (defScope st_runs_along) .none kV3 dc3 pm3 an3 cd3 ct3), sl3⟩) (c3 : PySem.W.codeIn K cd3 "runs_along" = true) (k3 : PySem.W.keepIn K (.ref f3) = true)
    {f4 : Addr} {od4 an4 : Option Addr} {sl4 : Array (Option Value)} {oc4 kV4 dc4 pm4 cd4 ct4 : Value}
    (a4 : PySem.W.nsIn K mainGlobals "runs" = some (some (.ref f4))) (l4 : K.lookup f4 = some ⟨oc4, od4, .func (PySem.W.fnOf "runs" "runs" (defArgs st_runs) (defBody st_runs) (defScope st_runs) .none kV4 dc4 pm4 an4 cd4 ct4), sl4⟩) (c4 : PySem.W.codeIn K cd4 "runs" = true) (k4 : PySem.W.keepIn K (.ref f4) = true)
    {f5 : Addr} {od5 an5 : Option Addr} {sl5 : Array (Option Value)} {oc5 kV5 dc5 pm5 cd5 ct5 : Value}
    (a5 : PySem.W.nsIn K mainGlobals "_law_cell_at" = some (some (.ref f5))) (l5 : K.lookup f5 = some ⟨oc5, od5, .func (PySem.W.fnOf "_law_cell_at" "_law_cell_at" (defArgs st_cell_at) (defBody st_cell_at) (defScope st_cell_at) .none kV5 dc5 pm5 an5 cd5 ct5), sl5⟩) (c5 : PySem.W.codeIn K cd5 "_law_cell_at" = true) (k5 : PySem.W.keepIn K (.ref f5) = true)
    {f6 : Addr} {od6 an6 : Option Addr} {sl6 : Array (Option Value)} {oc6 kV6 dc6 pm6 cd6 ct6 : Value}
    (a6 : PySem.W.nsIn K mainGlobals "_law_hand" = some (some (.ref f6))) (l6 : K.lookup f6 = some ⟨oc6, od6, .func (PySem.W.fnOf "_law_hand" "_law_hand" (defArgs st_hand) (defBody st_hand) (defScope st_hand) .none kV6 dc6 pm6 an6 cd6 ct6), sl6⟩) (c6 : PySem.W.codeIn K cd6 "_law_hand" = true) (k6 : PySem.W.keepIn K (.ref f6) = true)
    {f7 : Addr} {od7 an7 : Option Addr} {sl7 : Array (Option Value)} {oc7 kV7 dc7 pm7 cd7 ct7 : Value}
    (a7 : PySem.W.nsIn K mainGlobals "_law_pick" = some (some (.ref f7))) (l7 : K.lookup f7 = some ⟨oc7, od7, .func (PySem.W.fnOf "_law_pick" "_law_pick" (defArgs st_pick) (defBody st_pick) (defScope st_pick) .none kV7 dc7 pm7 an7 cd7 ct7), sl7⟩) (c7 : PySem.W.codeIn K cd7 "_law_pick" = true) (k7 : PySem.W.keepIn K (.ref f7) = true)
    {f8 : Addr} {od8 an8 : Option Addr} {sl8 : Array (Option Value)} {oc8 kV8 dc8 pm8 cd8 ct8 : Value}
    (a8 : PySem.W.nsIn K mainGlobals "_law_grown" = some (some (.ref f8))) (l8 : K.lookup f8 = some ⟨oc8, od8, .func (PySem.W.fnOf "_law_grown" "_law_grown" (defArgs st_grown) (defBody st_grown) (defScope st_grown) .none kV8 dc8 pm8 an8 cd8 ct8), sl8⟩) (c8 : PySem.W.codeIn K cd8 "_law_grown" = true) (k8 : PySem.W.keepIn K (.ref f8) = true)
    {f9 : Addr} {od9 an9 : Option Addr} {sl9 : Array (Option Value)} {oc9 kV9 dc9 pm9 cd9 ct9 : Value}
    (a9 : PySem.W.nsIn K mainGlobals "_law_floor" = some (some (.ref f9))) (l9 : K.lookup f9 = some ⟨oc9, od9, .func (PySem.W.fnOf "_law_floor" "_law_floor" (defArgs st_floor) (defBody st_floor) (defScope st_floor) .none kV9 dc9 pm9 an9 cd9 ct9), sl9⟩) (c9 : PySem.W.codeIn K cd9 "_law_floor" = true) (k9 : PySem.W.keepIn K (.ref f9) = true)
    {f10 : Addr} {od10 an10 : Option Addr} {sl10 : Array (Option Value)} {oc10 kV10 dc10 pm10 ct10 : Value}
    (a10 : PySem.W.nsIn K mainGlobals "_law_runs_of" = some (some (.ref f10))) (l10 : K.lookup f10 = some ⟨oc10, od10, .func (PySem.W.fnOf "_law_runs_of" "_law_runs_of" (defArgs st_runs_of) (defBody st_runs_of) (defScope st_runs_of) .none kV10 dc10 pm10 an10 (.ref cA) ct10), sl10⟩) (c10 : PySem.W.codeIn K (.ref cA) "_law_runs_of" = true) (k10 : PySem.W.keepIn K (.ref f10) = true)
    {f11 : Addr} {od11 an11 : Option Addr} {sl11 : Array (Option Value)} {oc11 kV11 dc11 pm11 cd11 ct11 : Value}
    (a11 : PySem.W.nsIn K mainGlobals "_law_all_runs" = some (some (.ref f11))) (l11 : K.lookup f11 = some ⟨oc11, od11, .func (PySem.W.fnOf "_law_all_runs" "_law_all_runs" (defArgs st_all_runs) (defBody st_all_runs) (defScope st_all_runs) .none kV11 dc11 pm11 an11 cd11 ct11), sl11⟩) (c11 : PySem.W.codeIn K cd11 "_law_all_runs" = true) (k11 : PySem.W.keepIn K (.ref f11) = true)
    {f12 : Addr} {od12 an12 : Option Addr} {sl12 : Array (Option Value)} {oc12 kV12 dc12 pm12 cd12 ct12 : Value}
    (a12 : PySem.W.nsIn K mainGlobals "_law_same" = some (some (.ref f12))) (l12 : K.lookup f12 = some ⟨oc12, od12, .func (PySem.W.fnOf "_law_same" "_law_same" (defArgs st_same) (defBody st_same) (defScope st_same) .none kV12 dc12 pm12 an12 cd12 ct12), sl12⟩) (c12 : PySem.W.codeIn K cd12 "_law_same" = true) (k12 : PySem.W.keepIn K (.ref f12) = true)
    {f13 : Addr} {od13 an13 : Option Addr} {sl13 : Array (Option Value)} {oc13 kV13 dc13 pm13 cd13 ct13 : Value}
    (a13 : PySem.W.nsIn K mainGlobals "law" = some (some (.ref f13))) (l13 : K.lookup f13 = some ⟨oc13, od13, .func (PySem.W.fnOf "law" "law" (defArgs st_law) (defBody st_law) (defScope st_law) .none kV13 dc13 pm13 an13 cd13 ct13), sl13⟩) (c13 : PySem.W.codeIn K cd13 "law" = true) (k13 : PySem.W.keepIn K (.ref f13) = true)
    (z_dict : PySem.W.nsIn K mainGlobals "dict" = some none)
    (z_tuple : PySem.W.nsIn K mainGlobals "tuple" = some none)
    (z_sorted : PySem.W.nsIn K mainGlobals "sorted" = some none)
    (z_len : PySem.W.nsIn K mainGlobals "len" = some none)
    (z_int : PySem.W.nsIn K mainGlobals "int" = some none)
    (z_range : PySem.W.nsIn K mainGlobals "range" = some none)
    (z_isinstance : PySem.W.nsIn K mainGlobals "isinstance" = some none)
    (z_str : PySem.W.nsIn K mainGlobals "str" = some none)
    (z_all : PySem.W.nsIn K mainGlobals "all" = some none)
    (z_bool : PySem.W.nsIn K mainGlobals "bool" = some none)
    (z_zip : PySem.W.nsIn K mainGlobals "zip" = some none)
    (z_max : PySem.W.nsIn K mainGlobals "max" = some none)
    (z_min : PySem.W.nsIn K mainGlobals "min" = some none)
    {t_DOWN : Tok} (g_DOWN : PySem.W.nsIn K mainGlobals "DOWN" = some (some (.str "down" t_DOWN)))
    {t_RIGHT : Tok} (g_RIGHT : PySem.W.nsIn K mainGlobals "RIGHT" = some (some (.str "right" t_RIGHT)))
    {xC : Value} {ddC : Option Addr} {vsC : Array Value} {slC : Array (Option Value)} (hC : K.lookup cA = some ⟨xC, ddC, .fields vsC, slC⟩) (h11 : vsC[11]? = some (.ref tP)) (hh : PySem.W.codeHdIn K cA tP = true) (hn : K.lookup tP = none) :
    LamX.LawAtS l w K (L2.CX l.prog w) 6 63 "_law_script" mg fa h := by
  have e := hfa.symm.trans (PySem.W.mg_of X G a13)
  cases e
  have F_step_of : FunAt K mg "step_of" st_step_of := ⟨_, _, PySem.W.mg_of X G a1, fun_mk (st := st_step_of) l1 c1 k1⟩
  have F_moved_on : FunAt K mg "moved_on" st_moved_on := ⟨_, _, PySem.W.mg_of X G a2, fun_mk (st := st_moved_on) l2 c2 k2⟩
  have F_runs_along : FunAt K mg "runs_along" st_runs_along := ⟨_, _, PySem.W.mg_of X G a3, fun_mk (st := st_runs_along) l3 c3 k3⟩
  have F_runs : FunAt K mg "runs" st_runs := ⟨_, _, PySem.W.mg_of X G a4, fun_mk (st := st_runs) l4 c4 k4⟩
  have F_cell_at : FunAt K mg "_law_cell_at" st_cell_at := ⟨_, _, PySem.W.mg_of X G a5, fun_mk (st := st_cell_at) l5 c5 k5⟩
  have F_hand : FunAt K mg "_law_hand" st_hand := ⟨_, _, PySem.W.mg_of X G a6, fun_mk (st := st_hand) l6 c6 k6⟩
  have F_pick : FunAt K mg "_law_pick" st_pick := ⟨_, _, PySem.W.mg_of X G a7, fun_mk (st := st_pick) l7 c7 k7⟩
  have F_grown : FunAt K mg "_law_grown" st_grown := ⟨_, _, PySem.W.mg_of X G a8, fun_mk (st := st_grown) l8 c8 k8⟩
  have F_floor : FunAt K mg "_law_floor" st_floor := ⟨_, _, PySem.W.mg_of X G a9, fun_mk (st := st_floor) l9 c9 k9⟩
  have F_runs_of : FunAtC K mg "_law_runs_of" st_runs_of cA := ⟨_, _, _, _, _, _, _, _, _, PySem.W.mg_of X G a10, l10, c10, k10⟩
  have F_all_runs : FunAt K mg "_law_all_runs" st_all_runs := ⟨_, _, PySem.W.mg_of X G a11, fun_mk (st := st_all_runs) l11 c11 k11⟩
  have F_same : FunAt K mg "_law_same" st_same := ⟨_, _, PySem.W.mg_of X G a12, fun_mk (st := st_same) l12 c12 k12⟩
  have F_law := fun_mk (st := st_law) l13 c13 k13
  have z_dict := PySem.W.mg_none_of X G z_dict
  have z_tuple := PySem.W.mg_none_of X G z_tuple
  have z_sorted := PySem.W.mg_none_of X G z_sorted
  have z_len := PySem.W.mg_none_of X G z_len
  have z_int := PySem.W.mg_none_of X G z_int
  have z_range := PySem.W.mg_none_of X G z_range
  have z_isinstance := PySem.W.mg_none_of X G z_isinstance
  have z_str := PySem.W.mg_none_of X G z_str
  have z_all := PySem.W.mg_none_of X G z_all
  have z_bool := PySem.W.mg_none_of X G z_bool
  have z_zip := PySem.W.mg_none_of X G z_zip
  have z_max := PySem.W.mg_none_of X G z_max
  have z_min := PySem.W.mg_none_of X G z_min
  have g_DOWN : GlobV K mg "DOWN" gv_DOWN := ⟨V.str "down", _, PySem.W.mg_of X G g_DOWN, ⟨_, rfl⟩, fun _ => rfl⟩
  have g_RIGHT : GlobV K mg "RIGHT" gv_RIGHT := ⟨V.str "right", _, PySem.W.mg_of X G g_RIGHT, ⟨_, rfl⟩, fun _ => rfl⟩
  have hT : h.get? tP = some { cls := .none, data := .fields #[] } := by
    exact own f10 (PySem.W.mg_of X G a10) cA tP _ _ xC ddC vsC slC l10 rfl rfl hC h11
  refine ⟨PySem.W.fnOf "law" "law" (defArgs st_law) (defBody st_law) (defScope st_law) .none kV13 dc13 pm13 an13 cd13 ct13, [(cA, tP)], lawSp K [(tP, lamQ)] 63, fun p hp => ?_, fun p hp => ?_, fun p hp => ?_, fun s v => .of_eq rfl, fun H a ns hl _ hT hS => ⟨⟨a, ns, rfl, hS, hl, fun p hp => ?_⟩, rfl, rfl⟩, fun base kb nb TB => ?_⟩
  · rw [List.mem_singleton.mp hp]; exact hT
  · rw [List.mem_singleton.mp hp]; exact hn
  · rw [List.mem_singleton.mp hp]; exact PySem.W.codeHd_of_K X hh
  · rw [List.mem_singleton.mp hp]; exact hT (cA, tP) (List.mem_singleton_self _)
  · have TB := TB (cA, tP) (List.mem_singleton_self _)
    have c_step_of := ok_step_of (P := l.prog) (w := w) (K := K) (mg := mg) (base := base) F_step_of g_DOWN
    have c_moved_on := ok_moved_on (P := l.prog) (w := w) (K := K) (mg := mg) (base := base) F_moved_on
    have c_runs_along := ok_runs_along (P := l.prog) (w := w) (K := K) (mg := mg) (base := base) F_runs_along z_dict c_step_of c_moved_on
    have c_runs := ok_runs (P := l.prog) (w := w) (K := K) (mg := mg) (base := base) F_runs z_tuple z_sorted g_DOWN g_RIGHT c_runs_along
    have c_cell_at := ok_cell_at (P := l.prog) (w := w) (K := K) (mg := mg) (base := base) F_cell_at z_len
    have c_hand := ok_hand (P := l.prog) (w := w) (K := K) (mg := mg) (base := base) F_hand z_int c_cell_at
    have c_pick := ok_pick (P := l.prog) (w := w) (K := K) (mg := mg) (base := base) F_pick
    have c_grown := ok_grown (P := l.prog) (w := w) (K := K) (mg := mg) (base := base) F_grown z_range z_tuple z_sorted z_len c_pick
    have c_floor := ok_floor (P := l.prog) (w := w) (K := K) (mg := mg) (base := base) F_floor z_tuple z_range c_pick c_grown
    have c_runs_of := ok_runs_of (P := l.prog) (w := w) (K := K) (mg := mg) (base := base) TB F_runs_of z_sorted z_len z_int
    have c_all_runs := ok_all_runs (P := l.prog) (w := w) (K := K) (mg := mg) (base := base) F_all_runs z_sorted c_runs_of
    have s0 := Callee.never (P := l.prog) (w := w) (base := base) (ps := ["_law_got", "_law_due"]) (k := 0) F_same sc_same (fun _ _ _ _ _ _ us hl => match us, hl with | [_, _], _ => rfl)
    have s1 := ok_same (P := l.prog) (w := w) (K := K) (mg := mg) (base := base) (n := 0) F_same z_isinstance z_tuple z_str z_all z_int z_bool z_len z_zip s0
    have s2 := ok_same (P := l.prog) (w := w) (K := K) (mg := mg) (base := base) (n := 1) F_same z_isinstance z_tuple z_str z_all z_int z_bool z_len z_zip s1
    have s3 := ok_same (P := l.prog) (w := w) (K := K) (mg := mg) (base := base) (n := 2) F_same z_isinstance z_tuple z_str z_all z_int z_bool z_len z_zip s2
    have c_same3 := ok_same (P := l.prog) (w := w) (K := K) (mg := mg) (base := base) (n := 3) F_same z_isinstance z_tuple z_str z_all z_int z_bool z_len z_zip s3
    exact law_fn (T := [(tP, lamQ)]) (n := 63) (ok_law (P := l.prog) (w := w) (K := K) (mg := mg) (base := base) F_law z_range z_max z_min z_tuple z_len c_hand c_same3 c_floor c_runs c_all_runs) (fun ns M E Q hl hM hQ => ⟨ns, rfl, hl, by rw [hM]; simp [tabM], hQ⟩)
end DL
open PySem PySem.W PyProof.Rows
set_option maxHeartbeats 0 in
theorem PySem.Challenge.cw_mowfloor_k11_all_runs_holds : PySem.Challenge.rw_mowfloor_k11_all_runs.Holds := by
  w_on; o_law; k_head; (case hw => w_witness2)
  k_fill
  refine DL.walk_ofDef (l := PySem.Challenge.rw_mowfloor_k11_all_runs) (n := 63) (k := 6) (x := "_law_script") (CX := fun w => L2.CX PySem.Challenge.pw_mowfloor_k11_all_runs w) "_law_runs_of" rfl (by decide) rfl ⟨rfl, by decide, by decide⟩ (by decide +kernel) (fun w h Y => PySem.W.km_in_of Y) ?F (fun _ _ _ _ _ ⟨_, _, _, _, _, _, _, _, _, _, _, _, z⟩ => z)
  case F =>
    intro w mg fa h KX G hmg own
    refine' DL.all_mk KX G hmg own ?a1 ?l1 ?c1 ?k1 ?a2 ?l2 ?c2 ?k2 ?a3 ?l3 ?c3 ?k3 ?a4 ?l4 ?c4 ?k4 ?a5 ?l5 ?c5 ?k5 ?a6 ?l6 ?c6 ?k6 ?a7 ?l7 ?c7 ?k7 ?a8 ?l8 ?c8 ?k8 ?a9 ?l9 ?c9 ?k9 ?a10 ?l10 ?c10 ?k10 ?a11 ?l11 ?c11 ?k11 ?a12 ?l12 ?c12 ?k12 ?a13 ?l13 ?c13 ?k13 ?z_dict ?z_tuple ?z_sorted ?z_len ?z_int ?z_range ?z_isinstance ?z_str ?z_all ?z_bool ?z_zip ?z_max ?z_min ?g_DOWN ?g_RIGHT ?hC ?h11 ?hh ?hn
    (case a1 => k_is); (case l1 => k_is); (case c1 => k_is); (case k1 => k_is); (case a2 => k_is); (case l2 => k_is); (case c2 => k_is); (case k2 => k_is); (case a3 => k_is); (case l3 => k_is); (case c3 => k_is); (case k3 => k_is); (case a4 => k_is); (case l4 => k_is); (case c4 => k_is); (case k4 => k_is); (case a5 => k_is); (case l5 => k_is); (case c5 => k_is); (case k5 => k_is); (case a6 => k_is); (case l6 => k_is); (case c6 => k_is); (case k6 => k_is); (case a7 => k_is); (case l7 => k_is); (case c7 => k_is); (case k7 => k_is); (case a8 => k_is); (case l8 => k_is); (case c8 => k_is); (case k8 => k_is); (case a9 => k_is); (case l9 => k_is); (case c9 => k_is); (case k9 => k_is); (case a10 => k_is); (case l10 => k_is); (case c10 => k_is); (case k10 => k_is); (case a11 => k_is); (case l11 => k_is); (case c11 => k_is); (case k11 => k_is); (case a12 => k_is); (case l12 => k_is); (case c12 => k_is); (case k12 => k_is); (case a13 => k_is); (case l13 => k_is); (case c13 => k_is); (case k13 => k_is); (case z_dict => k_is); (case z_tuple => k_is); (case z_sorted => k_is); (case z_len => k_is); (case z_int => k_is); (case z_range => k_is); (case z_isinstance => k_is); (case z_str => k_is); (case z_all => k_is); (case z_bool => k_is); (case z_zip => k_is); (case z_max => k_is); (case z_min => k_is); (case g_DOWN => k_is); (case g_RIGHT => k_is); (case hC => k_is); (case h11 => rfl); (case hh => kernel_rfl); (case hn => kernel_rfl)
