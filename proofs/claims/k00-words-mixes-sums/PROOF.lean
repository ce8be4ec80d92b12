import PyProof.Rows.All
import Wide.All
import OpenK.AllK
import Wide.FinOn
import HandS.ForMost
import HandS.ForExc
import KE.KDictKeyed
import HandS.TupAny
import HandS.TupMul
import HandS.Style
import HandS.Flow
import HandS.Star
import HandS.Gcd
import HandS.IsInst
import HandS.Deep
import HandS.Wide
import KE.SortData
import HandS.Conv
import HandS.Rev
import HandS.Walk
import HandS.Zip
import KE.GoesEnum
import HandS.ExcInit
import HandS.ExcField
import KE.KExcInit
import PyProof.ExcBaseAll.LookupError
import HandS.Defaults
import HandS.ExcIs
import HandS.CallSlots
import HandS.More
import HandS.TupSets
import HandS.SetFor
import KE.SortLaws
import HandS.Strs
import HandS.HeadHook2
import HandS.Head0
import HandS.Head1
import HandS.Head2
import HandS.HeadHook4
import HandS.HeadEnd
import HandS.EndBits
import HandS.Head3
import PySem.Challenge.RW_ruledsums_k00_words_mixes_sums_by_own_re
set_option Elab.async false
section
set_option Elab.async false
set_option linter.all false
set_option maxRecDepth 100000
set_option maxHeartbeats 2000000
/-! Rf, part A: data by value in the abstract heap, frames of slots, outcomes. -/
namespace Rf
open PySem PySem.Spec L2

abbrev D := PyData
abbrev Sg := L2.St

/-! ### keys -/
mutual
def keyOf : D → Option NestedKey
  | .none => some .none
  | .bool _ => Option.none
  | .int i => some (.num i)
  | .str x => some (.text x)
  | .tuple xs => (keysOf xs).map .tup
  | .list _ => Option.none
  | .dict _ => Option.none
def keysOf : List D → Option (List NestedKey)
  | [] => some []
  | x :: xs => match keyOf x, keysOf xs with
    | some k, some ks => some (k :: ks)
    | _, _ => Option.none
end

/-- a dict's object: its entries -/
def dictO (P : Program) (w : World) (a : Addr) (o : Obj) (xs : List (NestedKey × Addr × Value)) : HO :=
  .ext fun h => h.get? a = some o ∧ o.ExactDict ∧ ∃ es ep, o.data = .dict es ep ∧ es.toList = xs.map (entryOfKey (nestedKind P w))

/-! ### data that stands, over the addresses that S allows -/
def TrL (K : PySem.W.Frag) (S : Addr → Prop) (H : Hp) (a : Addr) (xs : List V) : Prop := (S a ∧ Rd H a (.lst xs)) ∨ SqL K (fun _ => none) a xs
def TrT (K : PySem.W.Frag) (S : Addr → Prop) (H : Hp) (a : Addr) (xs : List V) : Prop := (S a ∧ Rd H a (.tup xs)) ∨ SqT K (fun _ => none) a xs
theorem knL {K : PySem.W.Frag} {H : Hp} {a : Addr} {xs : List V} (h : SqL K (fun _ => none) a xs) : SqL K H a xs := by
  rcases h with (h | ⟨o, h⟩) | h
  · cases h
  · cases h
  · exact .inr h
theorem knT {K : PySem.W.Frag} {H : Hp} {a : Addr} {xs : List V} (h : SqT K (fun _ => none) a xs) : SqT K H a xs := by
  rcases h with (h | ⟨o, h⟩) | h
  · cases h
  · cases h
  · exact .inr h
theorem TrL.sq {K : PySem.W.Frag} {S : Addr → Prop} {H : Hp} {a : Addr} {xs : List V} (h : TrL K S H a xs) : SqL K H a xs := by
  rcases h with ⟨_, h⟩ | h
  · exact .inl h
  · exact knL h
theorem TrT.sq {K : PySem.W.Frag} {S : Addr → Prop} {H : Hp} {a : Addr} {xs : List V} (h : TrT K S H a xs) : SqT K H a xs := by
  rcases h with ⟨_, h⟩ | h
  · exact .inl h
  · exact knT h

section
variable (P : Program) (w : World) (K : PySem.W.Frag) (S : Addr → Prop) (H : Hp)
mutual
inductive Dn : V → D → Prop
  | non : Dn .non .none
  | bl (b : Bool) : Dn (.bl b) (.bool b)
  | int (i : Int) : Dn (.int i) (.int i)
  | str (x : Str) : Dn (.str x) (.str x)
  | lst {a : Addr} {xs : List V} {ds : List D} : TrL K S H a xs → DnAll xs ds → Dn (.ref a) (.list ds)
  | tup {a : Addr} {xs : List V} {ds : List D} : TrT K S H a xs → DnAll xs ds → Dn (.ref a) (.tuple ds)
  | dic {a : Addr} {o : Obj} {xs : List (NestedKey × Addr × Value)} {kvs : List (D × D)} : S a → H a = some (dictO P w a o xs) → (a == sysModules) = false → xs.length ≤ sizeLine →
      (xs.map (·.1)).Nodup → DnKv xs kvs → Dn (.ref a) (.dict kvs)
inductive DnAll : List V → List D → Prop
  | nil : DnAll [] []
  | cons {v : V} {vs : List V} {d : D} {ds : List D} : Dn v d → DnAll vs ds → DnAll (v :: vs) (d :: ds)
inductive DnKv : List (NestedKey × Addr × Value) → List (D × D) → Prop
  | nil : DnKv [] []
  | cons {nk : NestedKey} {ka : Addr} {val : Value} {v : V} {kd vd : D} {xs : List (NestedKey × Addr × Value)} {kvs : List (D × D)} :
      keyOf kd = some nk → nk.depth ≤ 8 → Dn (.ref ka) kd → RelV v val → Dn v vd → DnKv xs kvs → DnKv ((nk, ka, val) :: xs) ((kd, vd) :: kvs)
end
end

section
variable {P : Program} {w : World} {K : PySem.W.Frag} {S S' : Addr → Prop} {H H' : Hp}
theorem TrL.mono (h : ∀ a o, S a → H a = some o → S' a ∧ H' a = some o) {a : Addr} {xs : List V} (x : TrL K S H a xs) : TrL K S' H' a xs := by
  rcases x with ⟨s, x | ⟨o, x⟩⟩ | x
  · exact .inl ⟨(h a _ s x).1, .inl (h a _ s x).2⟩
  · exact .inl ⟨(h a _ s x).1, .inr ⟨o, (h a _ s x).2⟩⟩
  · exact .inr x
theorem TrT.mono (h : ∀ a o, S a → H a = some o → S' a ∧ H' a = some o) {a : Addr} {xs : List V} (x : TrT K S H a xs) : TrT K S' H' a xs := by
  rcases x with ⟨s, x | ⟨o, x⟩⟩ | x
  · exact .inl ⟨(h a _ s x).1, .inl (h a _ s x).2⟩
  · exact .inl ⟨(h a _ s x).1, .inr ⟨o, (h a _ s x).2⟩⟩
  · exact .inr x
mutual
theorem Dn.mono (h : ∀ a o, S a → H a = some o → S' a ∧ H' a = some o) : ∀ {v : V} {d : D}, Dn P w K S H v d → Dn P w K S' H' v d
  | _, _, .non => .non
  | _, _, .bl b => .bl b
  | _, _, .int i => .int i
  | _, _, .str x => .str x
  | _, _, .lst t q => .lst (t.mono h) (DnAll.mono h q)
  | _, _, .tup t q => .tup (t.mono h) (DnAll.mono h q)
  | _, _, .dic s e m l n q => .dic (h _ _ s e).1 (h _ _ s e).2 m l n (DnKv.mono h q)
theorem DnAll.mono (h : ∀ a o, S a → H a = some o → S' a ∧ H' a = some o) : ∀ {vs : List V} {ds : List D}, DnAll P w K S H vs ds → DnAll P w K S' H' vs ds
  | _, _, .nil => .nil
  | _, _, .cons q r => .cons (Dn.mono h q) (DnAll.mono h r)
theorem DnKv.mono (h : ∀ a o, S a → H a = some o → S' a ∧ H' a = some o) : ∀ {xs : List (NestedKey × Addr × Value)} {kvs : List (D × D)}, DnKv P w K S H xs kvs → DnKv P w K S' H' xs kvs
  | _, _, .nil => .nil
  | _, _, .cons e l q r v t => .cons e l (Dn.mono h q) r (Dn.mono h v) (DnKv.mono h t)
end
theorem DnAll.length : ∀ {vs : List V} {ds : List D}, DnAll P w K S H vs ds → vs.length = ds.length
  | _, _, .nil => rfl
  | _, _, .cons _ r => by simp [r.length]
theorem DnAll.append : ∀ {vs us : List V} {ds es : List D}, DnAll P w K S H vs ds → DnAll P w K S H us es → DnAll P w K S H (vs ++ us) (ds ++ es)
  | _, _, _, _, .nil, s => s
  | _, _, _, _, .cons q r, s => .cons q (r.append s)
theorem DnAll.get : ∀ {vs : List V} {ds : List D} {i : Nat} {v : V}, DnAll P w K S H vs ds → vs[i]? = some v → ∃ d, ds[i]? = some d ∧ Dn P w K S H v d
  | _, _, _, _, .nil, e => by simp at e
  | _, _, 0, _, .cons q _, e => by simp at e; subst e; exact ⟨_, rfl, q⟩
  | _, _, i + 1, _, .cons _ r, e => by
    obtain ⟨d, h1, h2⟩ := r.get (i := i) (by simpa using e)
    exact ⟨d, by simpa using h1, h2⟩
theorem DnAll.get' : ∀ {vs : List V} {ds : List D} {i : Nat} {d : D}, DnAll P w K S H vs ds → ds[i]? = some d → ∃ v, vs[i]? = some v ∧ Dn P w K S H v d
  | _, _, _, _, .nil, e => by simp at e
  | _, _, 0, _, .cons q _, e => by simp at e; subst e; exact ⟨_, rfl, q⟩
  | _, _, i + 1, _, .cons _ r, e => by
    obtain ⟨d, h1, h2⟩ := r.get' (i := i) (by simpa using e)
    exact ⟨d, by simpa using h1, h2⟩
theorem DnAll.take : ∀ {vs : List V} {ds : List D} (n : Nat), DnAll P w K S H vs ds → DnAll P w K S H (vs.take n) (ds.take n)
  | _, _, 0, _ => .nil
  | _, _, _ + 1, .nil => .nil
  | _, _, n + 1, .cons q r => .cons q (r.take n)
theorem DnAll.drop : ∀ {vs : List V} {ds : List D} (n : Nat), DnAll P w K S H vs ds → DnAll P w K S H (vs.drop n) (ds.drop n)
  | _, _, 0, r => r
  | _, _, _ + 1, .nil => .nil
  | _, _, n + 1, .cons _ r => r.drop n
theorem DnAll.rev {vs : List V} {ds : List D} (h : DnAll P w K S H vs ds) : DnAll P w K S H vs.reverse ds.reverse := by
  induction vs generalizing ds with
  | nil => cases h; exact .nil
  | cons v vs ih => cases h with | cons q r => rw [List.reverse_cons, List.reverse_cons]; exact (ih r).append (.cons q .nil)
theorem DnAll.set {v : V} {d : D} (q : Dn P w K S H v d) : ∀ {vs : List V} {ds : List D} (n : Nat), DnAll P w K S H vs ds → DnAll P w K S H (vs.set n v) (ds.set n d)
  | _, _, _, .nil => .nil
  | _, _, 0, .cons _ r => .cons q r
  | _, _, n + 1, .cons p r => .cons p (r.set q n)
theorem DnAll.erase : ∀ {vs : List V} {ds : List D} (n : Nat), DnAll P w K S H vs ds → DnAll P w K S H (vs.eraseIdx n) (ds.eraseIdx n)
  | _, _, _, .nil => .nil
  | _, _, 0, .cons _ r => r
  | _, _, n + 1, .cons p r => .cons p (r.erase n)
theorem DnAll.of_vs : ∀ {vs : List V} {ds : List D}, vs.length = ds.length → (∀ (i : Nat) (v : V) (d : D), vs[i]? = some v → ds[i]? = some d → Dn P w K S H v d) → DnAll P w K S H vs ds
  | [], [], _, _ => .nil
  | v :: vs, d :: ds, l, h => .cons (h 0 v d rfl rfl) (DnAll.of_vs (by simpa using l) fun i v d a b => h (i + 1) v d (by simpa using a) (by simpa using b))
  | [], _ :: _, l, _ => by simp at l
  | _ :: _, [], l, _ => by simp at l
mutual
theorem Dn.dp : ∀ {v : V} {d : D}, d.canLay0 = true → Dn P w K S H v d → Dp K H v d
  | _, _, _, .non => .non
  | _, _, _, .bl b => .bl b
  | _, _, _, .int i => .int i
  | _, _, _, .str x => .str x
  | _, _, c, .lst t q => .lst t.sq (DnAll.dp (by simpa [PyData.canLay0] using c) q)
  | _, _, c, .tup t q => .tup t.sq (DnAll.dp (by simpa [PyData.canLay0] using c) q)
  | _, _, c, .dic _ _ _ _ _ _ => by simp [PyData.canLay0] at c
theorem DnAll.dp : ∀ {vs : List V} {ds : List D}, PyData.canLayAll0 ds = true → DnAll P w K S H vs ds → DpAll K H vs ds
  | _, _, _, .nil => .nil
  | _, _, c, .cons q r => by
    simp [PyData.canLayAll0] at c
    exact .cons (Dn.dp c.1 q) (DnAll.dp c.2 r)
end
end

/-! ### slots, outcomes -/
/-- a slot: nothing known; a value; a list or dict of the frame's own; one of the caller's that may be changed; one of the caller's that is read -/
inductive Sl where
  | un | im (d : D) | mu (d : D) | io (d : D) | bo (d : D)
abbrev Env := Nat → Sl
def Env.put (ρ : Env) (i : Nat) (s : Sl) : Env := fun j => if j = i then s else ρ j
theorem put_same {ρ : Env} {i : Nat} {s : Sl} : ρ.put i s i = s := if_pos rfl
theorem put_ne {ρ : Env} {i j : Nat} {s : Sl} (h : j ≠ i) : ρ.put i s j = ρ j := if_neg h
def Sl.isM : Sl → Bool
  | .mu _ | .io _ => true
  | _ => false

inductive Out (α : Type) where
  | ok (a : α) (ρ : Env)
  | ex (c : Nat) (ds : List D) (ρ : Env)
  | bad
abbrev M (α : Type) := Env → Out α
def Out.bind {α β : Type} (o : Out α) (f : α → Env → Out β) : Out β := match o with
  | .ok a ρ => f a ρ
  | .ex c ds ρ => .ex c ds ρ
  | .bad => .bad
def Out.sat {α : Type} (o : Out α) (k : α → Env → Prop) (e : Nat → List D → Env → Prop) : Prop := match o with
  | .ok a ρ => k a ρ
  | .ex c ds ρ => e c ds ρ
  | .bad => False
theorem Out.sat_bind {α β : Type} {o : Out α} {f : α → Env → Out β} {k : β → Env → Prop} {e : Nat → List D → Env → Prop} : (o.bind f).sat k e ↔ o.sat (fun a ρ => (f a ρ).sat k e) e := by
  cases o <;> exact Iff.rfl
theorem Out.sat_mono {α : Type} {o : Out α} {k k' : α → Env → Prop} {e e' : Nat → List D → Env → Prop} (h : o.sat k e) (hk : ∀ a ρ, k a ρ → k' a ρ) (he : ∀ c ds ρ, e c ds ρ → e' c ds ρ) : o.sat k' e' := by
  cases o with
  | ok a ρ => exact hk _ _ h
  | ex c ds ρ => exact he _ _ _ h
  | bad => exact h.elim

def M.pure {α : Type} (a : α) : M α := fun ρ => .ok a ρ
def M.bind {α β : Type} (m : M α) (f : α → M β) : M β := fun ρ => (m ρ).bind fun a ρ' => f a ρ'
def M.lift {α : Type} (o : Option α) : M α := fun ρ => match o with
  | some a => .ok a ρ
  | none => .bad

/-! ### frames -/
/-- what a frame has from its caller: the addresses that data may use, the heap at the entry, the objects handed in to be changed (slot, address) -/
structure Fr where
  N : Addr → Prop
  H0 : Hp
  io : List (Nat × Addr)

/-- all but one address -/
def Fr.but (F : Fr) (a : Addr) : Fr := { F with N := fun b => F.N b ∧ b ≠ a }

/-- the addresses of what the frame may change -/
def MutA (ρ : Env) (σ : Sg) (a : Addr) : Prop := ∃ i, (ρ i).isM = true ∧ σ[i]? = some (some (.ref a))
def Al (F : Fr) (ρ : Env) (σ : Sg) : Addr → Prop := fun a => F.N a ∧ ¬ MutA ρ σ a

section
variable (P : Program) (w : World) (K : PySem.W.Frag)
/-- a list or dict that is changed -/
def Ob (S : Addr → Prop) (H : Hp) (a : Addr) (d : D) : Prop := match d with
  | .list ds => ∃ xs, H a = some (.lst xs) ∧ DnAll P w K S H xs ds
  | .dict kvs => ∃ xs o, H a = some (dictO P w a o xs) ∧ (a == sysModules) = false ∧ xs.length ≤ sizeLine ∧ (xs.map (·.1)).Nodup ∧ DnKv P w K S H xs kvs
  | _ => False
/-- a list or dict that is read -/
def Rb (S : Addr → Prop) (H : Hp) (a : Addr) (d : D) : Prop := match d with
  | .list ds => ∃ xs, SqL K H a xs ∧ DnAll P w K S H xs ds
  | .dict kvs => ∃ xs o, H a = some (dictO P w a o xs) ∧ (a == sysModules) = false ∧ xs.length ≤ sizeLine ∧ (xs.map (·.1)).Nodup ∧ DnKv P w K S H xs kvs
  | _ => False
/-- read: data, or something that is read -/
def Bd (S : Addr → Prop) (H : Hp) (v : V) (d : D) : Prop := Dn P w K S H v d ∨ ∃ a, v = .ref a ∧ Rb P w K S H a d

structure Rel (F : Fr) (ρ : Env) (σ : Sg) (H : Hp) : Prop where
  im : ∀ i d, ρ i = .im d → ∃ v, σ[i]? = some (some v) ∧ Dn P w K (Al F ρ σ) H v d
  mu : ∀ i d, ρ i = .mu d → ∃ a, σ[i]? = some (some (.ref a)) ∧ Ob P w K (Al F ρ σ) H a d ∧ F.H0 a = none ∧ F.N a
  io : ∀ i d, ρ i = .io d → ∃ a, σ[i]? = some (some (.ref a)) ∧ Ob P w K (Al F ρ σ) H a d ∧ (i, a) ∈ F.io
  bo : ∀ i d, ρ i = .bo d → ∃ v, σ[i]? = some (some v) ∧ (Dn P w K (Al F ρ σ) H v d ∨ ∃ a, v = .ref a ∧ Rb P w K (Al F ρ σ) H a d ∧ ¬ MutA ρ σ a ∧ (F.N a ∨ F.H0 a ≠ none) ∧ ∃ o, H a = some o)
  sep : ∀ i j a, i ≠ j → (ρ i).isM = true → (ρ j).isM = true → σ[i]? = some (some (.ref a)) → σ[j]? ≠ some (some (.ref a))
  ioin : ∀ p ∈ F.io, (∃ d, ρ p.1 = .io d) ∧ σ[p.1]? = some (some (.ref p.2))
  fresh : ∀ a, H a = none → F.N a
  ent : ∀ b o, F.H0 b = some o → (∀ p ∈ F.io, p.2 ≠ b) → H b = some o
end

/-- how an expression leaves the heap: t tells whether it may change what the frame may change -/
structure Kp (t : Bool) (ρ ρ' : Env) (σ : Sg) (H H' : Hp) : Prop where
  le : ∀ i, (ρ' i).isM = true → (ρ i).isM = true
  kp : ∀ b o, H b = some o → (t = true → ¬ MutA ρ σ b) → H' b = some o
  th : ∀ b o, H b = some o → ∃ o', H' b = some o'


section
variable {P : Program} {w : World} {K : PySem.W.Frag} {S S' : Addr → Prop} {F : Fr} {ρ ρ' ρ'' : Env} {σ σ' : Sg} {H H' H'' : Hp} {t : Bool}
theorem Ob.there {a : Addr} {d : D} (x : Ob P w K S H a d) : ∃ o, H a = some o := by
  cases d with
  | list ds => obtain ⟨xs, e, _⟩ := x; exact ⟨_, e⟩
  | dict ds => obtain ⟨xs, o, e, _⟩ := x; exact ⟨_, e⟩
  | _ => exact x.elim
theorem Ob.mono (h : ∀ a o, S a → H a = some o → S' a ∧ H' a = some o) {a : Addr} {d : D} (ha : ∀ o, H a = some o → H' a = some o) (x : Ob P w K S H a d) : Ob P w K S' H' a d := by
  cases d with
  | list ds => obtain ⟨xs, e, q⟩ := x; exact ⟨xs, ha _ e, DnAll.mono h q⟩
  | dict ds => obtain ⟨xs, o, e, m, l, n, q⟩ := x; exact ⟨xs, o, ha _ e, m, l, n, DnKv.mono h q⟩
  | _ => exact x.elim
theorem Rb.mono (h : ∀ a o, S a → H a = some o → S' a ∧ H' a = some o) {a : Addr} {d : D} (ha : ∀ o, H a = some o → H' a = some o) (x : Rb P w K S H a d) : Rb P w K S' H' a d := by
  cases d with
  | list ds =>
    obtain ⟨xs, (e | ⟨o, e⟩) | e, q⟩ := x
    · exact ⟨xs, .inl (.inl (ha _ e)), DnAll.mono h q⟩
    · exact ⟨xs, .inl (.inr ⟨o, ha _ e⟩), DnAll.mono h q⟩
    · exact ⟨xs, .inr e, DnAll.mono h q⟩
  | dict ds => obtain ⟨xs, o, e, m, l, n, q⟩ := x; exact ⟨xs, o, ha _ e, m, l, n, DnKv.mono h q⟩
  | _ => exact x.elim
theorem Ob.rb {a : Addr} {d : D} (x : Ob P w K S H a d) : Rb P w K S H a d := by
  cases d with
  | list ds => obtain ⟨xs, e, q⟩ := x; exact ⟨xs, SqL.of e, q⟩
  | dict ds => exact x
  | _ => exact x.elim
theorem Dn.bd {v : V} {d : D} (x : Dn P w K S H v d) : Bd P w K S H v d := .inl x

theorem Kp.refl : Kp t ρ ρ σ H H := ⟨fun _ h => h, fun _ _ h _ => h, fun _ o h => ⟨o, h⟩⟩
theorem Kp.trans {u : Bool} (a : Kp t ρ ρ' σ H H') (b : Kp u ρ' ρ'' σ H' H'') : Kp (t || u) ρ ρ'' σ H H'' := by
  refine ⟨fun i h => a.le i (b.le i h), fun c o e hm => ?_, fun c o e => let ⟨_, q⟩ := a.th c o e; b.th c _ q⟩
  refine b.kp c o (a.kp c o e fun ht => hm (by rw [ht]; rfl)) fun hu ⟨i, h1, h2⟩ => ?_
  exact hm (by rw [hu, Bool.or_true]) ⟨i, a.le i h1, h2⟩
theorem Kp.up {u : Bool} (a : Kp t ρ ρ' σ H H') (h : t = true → u = true) : Kp u ρ ρ' σ H H' := ⟨a.le, fun b o e hm => a.kp b o e fun ht => hm (h ht), a.th⟩
/-- data goes along -/
theorem Kp.al (a : Kp t ρ ρ' σ H H') : ∀ b o, Al F ρ σ b → H b = some o → Al F ρ' σ b ∧ H' b = some o := fun b o s e =>
  ⟨⟨s.1, fun ⟨i, h1, h2⟩ => s.2 ⟨i, a.le i h1, h2⟩⟩, a.kp b o e fun _ => s.2⟩
theorem Dn.kp (k : Kp t ρ ρ' σ H H') {v : V} {d : D} (x : Dn P w K (Al F ρ σ) H v d) : Dn P w K (Al F ρ' σ) H' v d := Dn.mono k.al x
theorem DnAll.kp (k : Kp t ρ ρ' σ H H') {v : List V} {d : List D} (x : DnAll P w K (Al F ρ σ) H v d) : DnAll P w K (Al F ρ' σ) H' v d := DnAll.mono k.al x
theorem Bd.kp (k : Kp false ρ ρ' σ H H') {v : V} {d : D} (x : Bd P w K (Al F ρ σ) H v d) : Bd P w K (Al F ρ' σ) H' v d := by
  rcases x with x | ⟨a, e, x⟩
  · exact .inl (Dn.kp k x)
  · exact .inr ⟨a, e, Rb.mono k.al (fun o h => k.kp a o h fun z => by cases z) x⟩
/-- nothing is known there: so nothing was at the entry -/
theorem Rel.none0 (R : Rel P w K F ρ σ H) {a : Addr} (h : H a = none) : F.H0 a = none := by
  cases e : F.H0 a with
  | none => rfl
  | some o =>
    by_cases hp : ∃ p ∈ F.io, p.2 = a
    · obtain ⟨p, hp, rfl⟩ := hp
      obtain ⟨⟨d, hd⟩, hs⟩ := R.ioin p hp
      obtain ⟨a', h1, h2, h3⟩ := R.io _ _ hd
      rw [hs] at h1
      cases h1
      obtain ⟨o', h4⟩ := h2.there
      rw [h] at h4
      cases h4
    · rw [R.ent a o e fun p hp' q => hp ⟨p, hp', q⟩] at h
      cases h
theorem Rel.mutThere (R : Rel P w K F ρ σ H) {a : Addr} (h : MutA ρ σ a) : ∃ o, H a = some o := by
  obtain ⟨i, h1, h2⟩ := h
  cases e : ρ i with
  | mu d =>
    obtain ⟨b, h3, h4, _⟩ := R.mu i d e
    rw [h2] at h3
    cases h3
    exact h4.there
  | io d =>
    obtain ⟨b, h3, h4, _⟩ := R.io i d e
    rw [h2] at h3
    cases h3
    exact h4.there
  | _ => rw [e] at h1; cases h1
/-- a new address may hold data -/
theorem Rel.new (R : Rel P w K F ρ σ H) {a : Addr} (h : H a = none) : Al F ρ σ a :=
  ⟨R.fresh a h, fun hm => by obtain ⟨o, e⟩ := R.mutThere hm; rw [h] at e; cases e⟩
/-- the heap has grown -/
theorem Rel.grow (R : Rel P w K F ρ σ H) (h : ∀ b o, H b = some o → H' b = some o) : Rel P w K F ρ σ H' where
  im := fun i d e => let ⟨v, h1, h2⟩ := R.im i d e; ⟨v, h1, Dn.mono (fun b o s q => ⟨s, h b o q⟩) h2⟩
  mu := fun i d e => let ⟨a, h1, h2, h3⟩ := R.mu i d e; ⟨a, h1, h2.mono (fun b o s q => ⟨s, h b o q⟩) (h a), h3⟩
  io := fun i d e => let ⟨a, h1, h2, h3⟩ := R.io i d e; ⟨a, h1, h2.mono (fun b o s q => ⟨s, h b o q⟩) (h a), h3⟩
  bo := fun i d e => let ⟨v, h1, h2⟩ := R.bo i d e; ⟨v, h1, match h2 with
    | .inl h2 => .inl (Dn.mono (fun b o s q => ⟨s, h b o q⟩) h2)
    | .inr ⟨a, q1, q2, q3, q4, o, q5⟩ => .inr ⟨a, q1, q2.mono (fun b o s q => ⟨s, h b o q⟩) (h a), q3, q4, o, h a o q5⟩⟩
  sep := R.sep
  ioin := R.ioin
  fresh := fun a e => R.fresh a (by cases q : H a with | none => rfl | some o => rw [h a o q] at e; cases e)
  ent := fun b o e hp => h b o (R.ent b o e hp)
theorem Fr.but_le {a : Addr} : ∀ b, Al (F.but a) ρ σ b → Al F ρ σ b := fun b h => ⟨h.1.1, h.2⟩
/-- fewer addresses known: more allowed -/
theorem Rel.but {a : Addr} (R : Rel P w K (F.but a) ρ σ H) (ha : F.H0 a = none → F.N a) : Rel P w K F ρ σ H := by
  have al : ∀ b o, Al (F.but a) ρ σ b → H b = some o → Al F ρ σ b ∧ H b = some o := fun b o s q => ⟨Fr.but_le b s, q⟩
  exact ⟨fun i d e => let ⟨v, h1, h2⟩ := R.im i d e; ⟨v, h1, Dn.mono al h2⟩, fun i d e => let ⟨v, h1, h2, h3, h4⟩ := R.mu i d e; ⟨v, h1, h2.mono al fun _ z => z, h3, h4.1⟩,
    fun i d e => let ⟨v, h1, h2, h3⟩ := R.io i d e; ⟨v, h1, h2.mono al fun _ z => z, h3⟩,
    fun i d e => let ⟨v, h1, h2⟩ := R.bo i d e; ⟨v, h1, match h2 with
      | .inl h2 => .inl (Dn.mono al h2)
      | .inr ⟨b, q1, q2, q3, q4, q5⟩ => .inr ⟨b, q1, q2.mono al fun _ z => z, q3, q4.imp_left fun z => z.1, q5⟩⟩,
    R.sep, R.ioin, fun b e => (R.fresh b e).1, R.ent⟩
/-- a new object: what stood does not use its address -/
theorem Rel.alloc (R : Rel P w K F ρ σ H) {a : Addr} (hn : H a = none) (h : ∀ b o, H b = some o → H' b = some o) (ht : H' a ≠ none) : Rel P w K (F.but a) ρ σ H' := by
  have al : ∀ b o, Al F ρ σ b → H b = some o → Al (F.but a) ρ σ b ∧ H' b = some o := fun b o s q => ⟨⟨⟨s.1, ne_of_none q hn⟩, s.2⟩, h b o q⟩
  have R' := R.grow h
  exact ⟨fun i d e => let ⟨v, h1, h2⟩ := R.im i d e; ⟨v, h1, Dn.mono al h2⟩, fun i d e => let ⟨v, h1, h2, h3, h4⟩ := R.mu i d e; ⟨v, h1, h2.mono al (h v), h3, h4, by obtain ⟨o, q⟩ := h2.there; exact ne_of_none q hn⟩,
    fun i d e => let ⟨v, h1, h2, h3⟩ := R.io i d e; ⟨v, h1, h2.mono al (h v), h3⟩,
    fun i d e => let ⟨v, h1, h2⟩ := R.bo i d e; ⟨v, h1, match h2 with
      | .inl h2 => .inl (Dn.mono al h2)
      | .inr ⟨b, q1, q2, q3, q4, o, q5⟩ => .inr ⟨b, q1, q2.mono al (h b), q3, q4.imp_left fun z => ⟨z, ne_of_none q5 hn⟩, o, h b o q5⟩⟩,
    R.sep, R.ioin, fun b e => ⟨R'.fresh b e, fun z => ht (by rw [← z]; exact e)⟩, R'.ent⟩
theorem Kp.grow (h : ∀ b o, H b = some o → H' b = some o) : Kp t ρ ρ σ H H' := ⟨fun _ h => h, fun b o e _ => h b o e, fun b o e => ⟨o, h b o e⟩⟩
theorem Kp.none (k : Kp t ρ ρ' σ H H') {a : Addr} (h : H' a = none) : H a = none := by
  cases e : H a with
  | none => rfl
  | some o =>
    obtain ⟨o', q⟩ := k.th a o e
    rw [h] at q
    cases q
end

/-! ### readings by outcomes -/
section
variable (P : Program) (w : World) (K : PySem.W.Frag)
/-- an exception as it lies: class number c, what it holds -/
abbrev XRep := Nat → List D → Value → Option Addr → Hp → Prop
abbrev WF := Nat → List D → Env → Prop
/-- what is wanted if the frame's code raises -/
def Xw (W : WX) (XR : XRep) (F : Fr) (σ : Sg) : WF := fun c ds ρ' => ∀ cls d H', Rel P w K F ρ' σ H' → XR c ds cls d H' → W cls d σ H'
/-- how a value stands: u: it is only read -/
def Rg (u : Bool) (S : Addr → Prop) (H : Hp) (v : V) (d : D) : Prop := if u = true then Bd P w K S H v d else Dn P w K S H v d
/-- the reading of an expression: u: its value is only read; t: it may change what the frame may change -/
def tg (W : WX) (XR : XRep) (u t : Bool) (m : M D) : TE := fun σ H Q => ∃ F ρ, Rel P w K F ρ σ H ∧
  (m ρ).sat (fun d ρ' => ∀ v H', Rel P w K F ρ' σ H' → Kp t ρ ρ' σ H H' → Rg P w K u (Al F ρ' σ) H' v d → Q v H') (Xw P w K W XR F σ)
/-- .. that makes a list or dict -/
def tf (W : WX) (XR : XRep) (t : Bool) (m : M D) : TE := fun σ H Q => ∃ F ρ, Rel P w K F ρ σ H ∧
  (m ρ).sat (fun d ρ' => ∀ a H', Rel P w K (F.but a) ρ' σ H' → Kp t ρ ρ' σ H H' → H a = none → Ob P w K (Al (F.but a) ρ' σ) H' a d → Q (.ref a) H') (Xw P w K W XR F σ)
def tas (W : WX) (XR : XRep) (t : Bool) (m : M (List D)) : TA := fun σ H Q => ∃ F ρ, Rel P w K F ρ σ H ∧
  (m ρ).sat (fun d ρ' => ∀ v H', Rel P w K F ρ' σ H' → Kp t ρ ρ' σ H H' → DnAll P w K (Al F ρ' σ) H' v d → Q v H') (Xw P w K W XR F σ)
def ttt (W : WX) (XR : XRep) (t : Bool) (m : M Bool) : TT := fun σ H Q => ∃ F ρ, Rel P w K F ρ σ H ∧
  (m ρ).sat (fun d ρ' => ∀ H', Rel P w K F ρ' σ H' → Kp t ρ ρ' σ H H' → Q d H') (Xw P w K W XR F σ)
end

section
variable {P : Program} {w : World} {K : PySem.W.Frag} {S S' : Addr → Prop} {F : Fr} {ρ ρ' ρ'' : Env} {σ σ' : Sg} {H H' H'' : Hp} {t u : Bool}
theorem Rg.bd {v : V} {d : D} (h : Rg P w K u S H v d) : Bd P w K S H v d := by
  cases u with
  | true => exact h
  | false => exact .inl h
theorem Rg.of {v : V} {d : D} (h : Dn P w K S H v d) : Rg P w K u S H v d := by
  cases u with
  | true => exact .inl h
  | false => exact h
theorem Rg.kp (hu : (u && t) = false) (k : Kp t ρ ρ' σ H H') {v : V} {d : D} (x : Rg P w K u (Al F ρ σ) H v d) : Rg P w K u (Al F ρ' σ) H' v d := by
  cases u with
  | true =>
    have e : t = false := by simpa using hu
    subst e
    exact Bd.kp k x
  | false => exact Dn.kp k x
/-- what was made stands as data -/
theorem Ob.dn {a : Addr} {d : D} (ha : S' a) (hs : ∀ b, S b → S' b) (x : Ob P w K S H a d) : Dn P w K S' H (.ref a) d := by
  cases d with
  | list ds => obtain ⟨xs, e, q⟩ := x; exact .lst (.inl ⟨ha, .inl e⟩) (DnAll.mono (fun b o s q => ⟨hs b s, q⟩) q)
  | dict ds => obtain ⟨xs, o, e, m, l, n, q⟩ := x; exact .dic ha e m l n (DnKv.mono (fun b o s q => ⟨hs b s, q⟩) q)
  | _ => exact x.elim
theorem Rel.newAl (R : Rel P w K F ρ σ H) (k : Kp t ρ ρ' σ H H') {a : Addr} (h : H a = none) : Al F ρ' σ a :=
  ⟨(R.new h).1, fun ⟨i, h1, h2⟩ => (R.new h).2 ⟨i, k.le i h1, h2⟩⟩
end

/-! ### rules: a judgement, read -/
abbrev TG (X : Cx) (W : WX) (XR : XRep) (u t : Bool) (m : M D) : TE := tg X.prog X.w X.K W XR u t m
abbrev TF (X : Cx) (W : WX) (XR : XRep) (t : Bool) (m : M D) : TE := tf X.prog X.w X.K W XR t m
abbrev TAs (X : Cx) (W : WX) (XR : XRep) (t : Bool) (m : M (List D)) : TA := tas X.prog X.w X.K W XR t m
abbrev TTs (X : Cx) (W : WX) (XR : XRep) (t : Bool) (m : M Bool) : TT := ttt X.prog X.w X.K W XR t m
theorem PEi {X : Cx} {e : Expr} {t t' : TE} (h : PE X e t) (i : ∀ σ H Q, t' σ H Q → t σ H Q) : PE X e t' := ⟨fun p s σ H Q I z => h.run p s σ H Q I (i σ H Q z)⟩
theorem PAi {X : Cx} {e : List Expr} {t t' : TA} (h : PA X e t) (i : ∀ σ H Q, t' σ H Q → t σ H Q) : PA X e t' := ⟨fun q p s σ H Q I z => h.run q p s σ H Q I (i σ H Q z)⟩
theorem PTi {X : Cx} {e : Expr} {t t' : TT} (h : PT X e t) (i : ∀ σ H Q, t' σ H Q → t σ H Q) : PT X e t' := ⟨fun p s σ H Q I z => h.run p s σ H Q I (i σ H Q z)⟩
theorem PWi {X : Cx} {e : Expr} {t t' : TT} (h : PW X e t) (i : ∀ σ H Q, t' σ H Q → t σ H Q) : PW X e t' := ⟨fun q p s σ H Q I z => h.run q p s σ H Q I (i σ H Q z)⟩

section
variable {X : Cx} {W : WX} {XR : XRep}
/-- one step, then another: the outcome of the two -/
theorem sat2 {α β : Type} {m : M α} {f : α → M β} {ρ : Env} {k : β → Env → Prop} {e : Nat → List D → Env → Prop} (h : ((M.bind m f) ρ).sat k e) : (m ρ).sat (fun a ρ' => ((f a) ρ').sat k e) e := Out.sat_bind.mp h
theorem satl {α : Type} {o : Option α} {ρ : Env} {k : α → Env → Prop} {e : Nat → List D → Env → Prop} (h : (M.lift o ρ).sat k e) : ∃ a, o = some a ∧ k a ρ := by
  cases o with
  | none => exact h.elim
  | some a => exact ⟨a, rfl, h⟩

/-- a made list or dict as a value -/
theorem e_ff {e : Expr} {t : Bool} {m : M D} (h : PE X e (TF X W XR t m)) : PE X e (TG X W XR false t m) := PEi h fun σ H Q ⟨F, ρ, R, z⟩ =>
  ⟨F, ρ, R, Out.sat_mono z (fun d ρ' k a H' R' K' n ob => k _ H' (R'.but fun _ => R.fresh a n) K' (ob.dn (S := Al (F.but a) ρ' σ) (R.newAl K' n) Fr.but_le)) fun _ _ _ h => h⟩
theorem e_bb {e : Expr} {u t : Bool} {m : M D} (h : PE X e (TG X W XR false t m)) : PE X e (TG X W XR u t m) := PEi h fun σ H Q ⟨F, ρ, R, z⟩ =>
  ⟨F, ρ, R, Out.sat_mono z (fun d ρ' k v H' R' K' n => k _ H' R' K' (Rg.of n)) fun _ _ _ h => h⟩
theorem e_up {e : Expr} {u t t' : Bool} {m : M D} (h : PE X e (TG X W XR u t m)) (ht : t = true → t' = true) : PE X e (TG X W XR u t' m) := PEi h fun σ H Q ⟨F, ρ, R, z⟩ =>
  ⟨F, ρ, R, Out.sat_mono z (fun d ρ' k v H' R' K' n => k _ H' R' (K'.up ht) n) fun _ _ _ h => h⟩

/-! ### names -/
def rdM (i : Nat) : M D := fun ρ => match ρ i with
  | .im d | .mu d | .io d | .bo d => .ok d ρ
  | .un => .bad
def vrM (i : Nat) : M D := fun ρ => match ρ i with
  | .im d => .ok d ρ
  | .mu d => .ok d (ρ.put i (.im d))
  | _ => .bad
theorem e_rd {i : Nat} {e : Expr} (h : PE X e (tVar i)) : PE X e (TG X W XR true false (rdM i)) := PEi h fun σ H Q ⟨F, ρ, R, z⟩ => by
  unfold rdM at z
  cases e : ρ i with
  | un => rw [e] at z; exact z.elim
  | im d =>
    rw [e] at z
    obtain ⟨v, h1, h2⟩ := R.im i d e
    exact ⟨v, h1, z v H R .refl (.inl h2)⟩
  | mu d =>
    rw [e] at z
    obtain ⟨a, h1, h2, _⟩ := R.mu i d e
    exact ⟨_, h1, z _ H R .refl (.inr ⟨a, rfl, h2.rb⟩)⟩
  | io d =>
    rw [e] at z
    obtain ⟨a, h1, h2, _⟩ := R.io i d e
    exact ⟨_, h1, z _ H R .refl (.inr ⟨a, rfl, h2.rb⟩)⟩
  | bo d =>
    rw [e] at z
    obtain ⟨v, h1, h2⟩ := R.bo i d e
    refine ⟨v, h1, z v H R .refl ?_⟩
    rcases h2 with h2 | ⟨a, q1, q2, q3⟩
    · exact .inl h2
    · exact .inr ⟨a, q1, q2⟩
/-- a list of the frame's own, handed on as a value, is changed no more -/
theorem Rel.freeze {F : Fr} {ρ : Env} {σ : Sg} {H : Hp} {i : Nat} {d : D} (R : Rel X.prog X.w X.K F ρ σ H) (e : ρ i = .mu d) :
    Rel X.prog X.w X.K F (ρ.put i (.im d)) σ H ∧ Kp false ρ (ρ.put i (.im d)) σ H H ∧ ∃ a, σ[i]? = some (some (.ref a)) ∧ Al F (ρ.put i (.im d)) σ a ∧ Ob X.prog X.w X.K (Al F (ρ.put i (.im d)) σ) H a d := by
  have le : ∀ j, ((ρ.put i (.im d)) j).isM = true → (ρ j).isM = true := fun j hj => by
    by_cases z : j = i
    · subst z; rw [put_same] at hj; cases hj
    · rw [put_ne z] at hj; exact hj
  have ml : ∀ b, MutA (ρ.put i (.im d)) σ b → MutA ρ σ b := fun b ⟨j, h1, h2⟩ => ⟨j, le j h1, h2⟩
  have al : ∀ b o, Al F ρ σ b → H b = some o → Al F (ρ.put i (.im d)) σ b ∧ H b = some o := fun b o s q => ⟨⟨s.1, fun z => s.2 (ml b z)⟩, q⟩
  obtain ⟨a, h1, h2, h3, h3n⟩ := R.mu i d e
  have ob : Ob X.prog X.w X.K (Al F (ρ.put i (.im d)) σ) H a d := h2.mono al fun _ z => z
  have na : Al F (ρ.put i (.im d)) σ a := by
    refine ⟨h3n, fun ⟨j, q1, q2⟩ => ?_⟩
    by_cases z : j = i
    · subst z; rw [put_same] at q1; cases q1
    · exact R.sep j i a z (le j q1) (by rw [e]; rfl) q2 h1
  refine ⟨?_, ⟨le, fun _ _ q _ => q, fun _ o q => ⟨o, q⟩⟩, a, h1, na, ob⟩
  refine ⟨fun j c q => ?_, fun j c q => ?_, fun j c q => ?_, fun j c q => ?_, fun j k b hjk p1 p2 => R.sep j k b hjk (le j p1) (le k p2), fun p hp => ?_, R.fresh, R.ent⟩
  · by_cases z : j = i
    · subst z
      rw [put_same] at q
      cases q
      exact ⟨_, h1, ob.dn (S := Al F (ρ.put j (.im d)) σ) na fun _ s => s⟩
    · rw [put_ne z] at q
      obtain ⟨v, p1, p2⟩ := R.im j c q
      exact ⟨v, p1, Dn.mono al p2⟩
  · by_cases z : j = i
    · subst z; rw [put_same] at q; cases q
    · rw [put_ne z] at q
      obtain ⟨v, p1, p2, p3⟩ := R.mu j c q
      exact ⟨v, p1, p2.mono al fun _ z => z, p3⟩
  · by_cases z : j = i
    · subst z; rw [put_same] at q; cases q
    · rw [put_ne z] at q
      obtain ⟨v, p1, p2, p3⟩ := R.io j c q
      exact ⟨v, p1, p2.mono al fun _ z => z, p3⟩
  · by_cases z : j = i
    · subst z; rw [put_same] at q; cases q
    · rw [put_ne z] at q
      obtain ⟨v, p1, p2⟩ := R.bo j c q
      refine ⟨v, p1, ?_⟩
      rcases p2 with p2 | ⟨b, r1, r2, r3, r4⟩
      · exact .inl (Dn.mono al p2)
      · exact .inr ⟨b, r1, r2.mono al fun _ z => z, fun z => r3 (ml b z), r4⟩
  · obtain ⟨⟨c, hc⟩, hs⟩ := R.ioin p hp
    refine ⟨⟨c, ?_⟩, hs⟩
    by_cases z : p.1 = i
    · rw [z, e] at hc; cases hc
    · rw [put_ne z]; exact hc
theorem e_vr {i : Nat} {e : Expr} (h : PE X e (tVar i)) : PE X e (TG X W XR false false (vrM i)) := PEi h fun σ H Q ⟨F, ρ, R, z⟩ => by
  unfold vrM at z
  cases e : ρ i with
  | im d =>
    rw [e] at z
    obtain ⟨v, h1, h2⟩ := R.im i d e
    exact ⟨v, h1, z v H R .refl h2⟩
  | mu d =>
    rw [e] at z
    obtain ⟨R', k, a, h1, h2, h3⟩ := R.freeze e
    exact ⟨_, h1, z _ H R' k (h3.dn (S := Al F (ρ.put i (.im d)) σ) h2 fun _ s => s)⟩
  | _ => rw [e] at z; exact z.elim

/-! ### constants -/
theorem e_con {e : Expr} {v : V} {d : D} (h : PE X e (tC v)) (hd : ∀ S H, Dn X.prog X.w X.K S H v d) : PE X e (TG X W XR false false (M.pure d)) :=
  PEi h fun σ H Q ⟨F, ρ, R, z⟩ => z v H R .refl (hd _ _)

/-! ### displays -/
def szOk (n : Nat) : Bool := Nat.ble n 16777216
theorem szOk_le {n : Nat} (h : szOk n = true) : n ≤ sizeLine := by
  rw [sizeLine_eq]
  exact Nat.le_of_ble_eq_true h
def tupM (m : M (List D)) : M D := M.bind m fun ds => M.lift (if szOk ds.length then some (.tuple ds) else none)
def lstM (m : M (List D)) : M D := M.bind m fun ds => M.lift (if szOk ds.length then some (.list ds) else none)
theorem e_tup {es : List Expr} {x1 : Nat} {pos : Pos} {t : Bool} {m : M (List D)} (h : PA X es (TAs X W XR t m)) : PE X (.Tuple es x1 pos) (TG X W XR false t (tupM m)) := PEi (pe_tup h) fun σ H Q ⟨F, ρ, R, z⟩ => by
  refine ⟨F, ρ, R, Out.sat_mono (sat2 z) (fun ds ρ' k vs H1 R1 K1 D1 => ?_) fun _ _ _ h => h⟩
  obtain ⟨d, e, k⟩ := satl k
  split at e
  · rename_i hz
    cases e
    refine ⟨by rw [D1.length]; exact szOk_le hz, fun p hp => ?_⟩
    have g : ∀ b o, H1 b = some o → upd H1 p (.tup vs) b = some o := fun b o q => by rw [upd_ne (ne_of_none q hp)]; exact q
    exact k _ _ (R1.grow g) ((K1.trans (Kp.grow (t := false) g)).up (by simp)) (.tup (.inl ⟨R1.new hp, .inl upd_same⟩) (DnAll.mono (fun b o s q => ⟨s, g b o q⟩) D1))
  · cases e
theorem e_lst {es : List Expr} {pos : Pos} {t : Bool} {m : M (List D)} (h : PA X es (TAs X W XR t m)) : PE X (.List es pos) (TF X W XR t (lstM m)) := PEi (pe_lst h) fun σ H Q ⟨F, ρ, R, z⟩ => by
  refine ⟨F, ρ, R, Out.sat_mono (sat2 z) (fun ds ρ' k vs H1 R1 K1 D1 => ?_) fun _ _ _ h => h⟩
  obtain ⟨d, e, k⟩ := satl k
  split at e
  · rename_i hz
    cases e
    refine ⟨by rw [D1.length]; exact szOk_le hz, fun p hp => ?_⟩
    have g : ∀ b o, H1 b = some o → upd H1 p (.lst vs) b = some o := fun b o q => by rw [upd_ne (ne_of_none q hp)]; exact q
    have hp0 : H p = none := K1.none hp
    exact k p _ (R1.alloc hp g (by rw [upd_same]; exact fun z => nomatch z)) ((K1.trans (Kp.grow (t := false) g)).up (by simp)) hp0 ⟨vs, upd_same, DnAll.mono (fun b o s q => ⟨⟨⟨s.1, ne_of_none q hp⟩, s.2⟩, g b o q⟩) D1⟩
  · cases e
end

end Rf
end
section
set_option Elab.async false
set_option linter.all false
set_option maxRecDepth 100000
set_option maxHeartbeats 2000000
/-! Rf, part B: expressions. -/
namespace Rf
open PySem PySem.Spec L2
section
variable {X : Cx} {W : WX} {XR : XRep}
/-! ### argument lists -/
def nilM : M (List D) := M.pure []
def consM (a : M D) (r : M (List D)) : M (List D) := M.bind a fun d => M.bind r fun ds => M.pure (d :: ds)
/-- the items of a tuple or list -/
def itemsD : D → Option (List D)
  | .list ds => some ds
  | .tuple ds => some ds
  | _ => none
def starM (a : M D) (r : M (List D)) : M (List D) := M.bind a fun d => M.bind (M.lift (itemsD d)) fun es => M.bind r fun ds => M.pure (es ++ ds)
theorem a_nil : PA X [] (TAs X W XR false nilM) := PAi pa_nil fun σ H Q ⟨F, ρ, R, z⟩ => z [] H R .refl .nil
theorem a_cons {e : Expr} {es : List Expr} {t u : Bool} {m : M D} {r : M (List D)} (he : PE X e (TG X W XR false t m)) (hr : PA X es (TAs X W XR u r)) (hs : starEach (e :: es) X.env = (false, eval e X.env) :: starEach es X.env) :
    PA X (e :: es) (TAs X W XR (t || u) (consM m r)) := PAi (pa_cons he hr hs) fun σ H Q ⟨F, ρ, R, z⟩ =>
  ⟨F, ρ, R, Out.sat_mono (sat2 z) (fun d ρ1 k v H1 R1 K1 D1 => ⟨F, ρ1, R1, Out.sat_mono (sat2 k) (fun ds ρ2 k2 vs H2 R2 K2 D2 => k2 _ H2 R2 (K1.trans K2) (.cons (Dn.kp K2 D1) D2)) fun _ _ _ h => h⟩) fun _ _ _ h => h⟩
theorem sq_of {S : Addr → Prop} {H : Hp} {v : V} {d : D} {ds : List D} (h : Bd X.prog X.w X.K S H v d) (e : itemsD d = some ds) :
    ∃ a xs, v = .ref a ∧ (SqT X.K H a xs ∨ SqL X.K H a xs) ∧ DnAll X.prog X.w X.K S H xs ds := by
  cases d with
  | list es =>
    cases e
    rcases h with h | ⟨a, rfl, xs, h1, h2⟩
    · cases h with | lst h1 h2 => exact ⟨_, _, rfl, .inr h1.sq, h2⟩
    · exact ⟨a, xs, rfl, .inr h1, h2⟩
  | tuple es =>
    cases e
    rcases h with h | ⟨a, rfl, h1⟩
    · cases h with | tup h1 h2 => exact ⟨_, _, rfl, .inl h1.sq, h2⟩
    · exact h1.elim
  | _ => cases e
theorem a_star {e : Expr} {p : Pos} {es : List Expr} {v t u : Bool} {m : M D} {r : M (List D)} (he : PE X e (TG X W XR v t m)) (hr : PA X es (TAs X W XR u r)) (hs : starEach (.Starred e p :: es) X.env = (true, eval e X.env) :: starEach es X.env) :
    PA X (.Starred e p :: es) (TAs X W XR (t || u) (starM m r)) := PAi (StX.pa_star he hr hs) fun σ H Q ⟨F, ρ, R, z⟩ =>
  ⟨F, ρ, R, Out.sat_mono (sat2 z) (fun d ρ1 k x H1 R1 K1 D1 => by
    obtain ⟨ds, e1, k⟩ := satl (sat2 k)
    obtain ⟨a, xs, rfl, sq, dn⟩ := sq_of D1.bd e1
    exact ⟨a, xs, rfl, sq, F, ρ1, R1, Out.sat_mono (sat2 k) (fun es ρ2 k2 vs H2 R2 K2 D2 => k2 _ H2 R2 (K1.trans K2) ((DnAll.kp K2 dn).append D2)) fun _ _ _ h => h⟩) fun _ _ _ h => h⟩

/-! ### two operands -/
def bin (f : D → D → Option D) (a b : M D) : M D := M.bind a fun x => M.bind b fun y => M.lift (f x y)
def Ser (X : Cx) (r : R2) (f : D → D → Option D) : Prop := ∀ (F : Fr) (ρ : Env) (σ : Sg) (H : Hp) (x y : V) (d e z : D) (Q : VK), Rel X.prog X.w X.K F ρ σ H → Bd X.prog X.w X.K (Al F ρ σ) H x d → Bd X.prog X.w X.K (Al F ρ σ) H y e → f d e = some z →
  (∀ v H', Rel X.prog X.w X.K F ρ σ H' → (∀ b o, H b = some o → H' b = some o) → Dn X.prog X.w X.K (Al F ρ σ) H' v z → Q v H') → r x y H Q
/-- .. that makes a list -/
def SerF (X : Cx) (r : R2) (f : D → D → Option D) : Prop := ∀ (F : Fr) (ρ : Env) (σ : Sg) (H : Hp) (x y : V) (d e z : D) (Q : VK), Rel X.prog X.w X.K F ρ σ H → Bd X.prog X.w X.K (Al F ρ σ) H x d → Bd X.prog X.w X.K (Al F ρ σ) H y e → f d e = some z →
  (∀ a H', Rel X.prog X.w X.K (F.but a) ρ σ H' → (∀ b o, H b = some o → H' b = some o) → H a = none → Ob X.prog X.w X.K (Al (F.but a) ρ σ) H' a z → Q (.ref a) H') → r x y H Q
theorem t_bin {ta tb : TE} {r : R2} {f : D → D → Option D} {u v t s : Bool} {m n : M D} (hc : (u && s) = false) (ha : ∀ σ H Q, TG X W XR u t m σ H Q → ta σ H Q) (hb : ∀ σ H Q, TG X W XR v s n σ H Q → tb σ H Q) (hr : Ser X r f) :
    ∀ σ H Q, TG X W XR false (t || s) (bin f m n) σ H Q → tOp r ta tb σ H Q := fun σ H Q ⟨F, ρ, R, z⟩ =>
  ha _ _ _ ⟨F, ρ, R, Out.sat_mono (sat2 z) (fun d ρ1 k x H1 R1 K1 D1 => hb _ _ _ ⟨F, ρ1, R1, Out.sat_mono (sat2 k) (fun e ρ2 k2 y H2 R2 K2 D2 => by
    obtain ⟨c, e1, k3⟩ := satl k2
    exact hr F ρ2 σ H2 x y d e c Q R2 (Rg.kp hc K2 D1).bd D2.bd e1 fun v H3 R3 g D3 => k3 v H3 R3 (((K1.trans K2).trans (Kp.grow (t := false) g)).up (by simp)) D3) fun _ _ _ h => h⟩) fun _ _ _ h => h⟩
theorem t_binF {ta tb : TE} {r : R2} {f : D → D → Option D} {u v t s : Bool} {m n : M D} (hc : (u && s) = false) (ha : ∀ σ H Q, TG X W XR u t m σ H Q → ta σ H Q) (hb : ∀ σ H Q, TG X W XR v s n σ H Q → tb σ H Q) (hr : SerF X r f) :
    ∀ σ H Q, TF X W XR (t || s) (bin f m n) σ H Q → tOp r ta tb σ H Q := fun σ H Q ⟨F, ρ, R, z⟩ =>
  ha _ _ _ ⟨F, ρ, R, Out.sat_mono (sat2 z) (fun d ρ1 k x H1 R1 K1 D1 => hb _ _ _ ⟨F, ρ1, R1, Out.sat_mono (sat2 k) (fun e ρ2 k2 y H2 R2 K2 D2 => by
    obtain ⟨c, e1, k3⟩ := satl k2
    exact hr F ρ2 σ H2 x y d e c Q R2 (Rg.kp hc K2 D1).bd D2.bd e1 fun v H3 R3 g n D3 => k3 v H3 R3 (((K1.trans K2).trans (Kp.grow (t := false) g)).up (by simp)) ((K1.trans K2).none n) D3) fun _ _ _ h => h⟩) fun _ _ _ h => h⟩
theorem e_bin {op : Operator} {r : R2} {f : D → D → Option D} {a b : Expr} {pos : Pos} {u v t s : Bool} {m n : M D} (ho : OpR X (binaryOp op) r) (hr : Ser X r f) (hc : (u && s) = false) (ha : PE X a (TG X W XR u t m)) (hb : PE X b (TG X W XR v s n)) :
    PE X (.BinOp a op b pos) (TG X W XR false (t || s) (bin f m n)) := PEi (pe_op ho ha hb) (t_bin hc (fun _ _ _ h => h) (fun _ _ _ h => h) hr)
theorem e_binF {op : Operator} {r : R2} {f : D → D → Option D} {a b : Expr} {pos : Pos} {u v t s : Bool} {m n : M D} (ho : OpR X (binaryOp op) r) (hr : SerF X r f) (hc : (u && s) = false) (ha : PE X a (TG X W XR u t m)) (hb : PE X b (TG X W XR v s n)) :
    PE X (.BinOp a op b pos) (TF X W XR (t || s) (bin f m n)) := PEi (pe_op ho ha hb) (t_binF hc (fun _ _ _ h => h) (fun _ _ _ h => h) hr)
theorem e_cmp {op : CmpOp} {r : R2} {f : D → D → Option D} {a b : Expr} {pos : Pos} {u v t s : Bool} {m n : M D} (ho : OpR X (compareOp op) r) (hr : Ser X r f) (hc : (u && s) = false) (hm : behindInMarks op b = false) (ha : PE X a (TG X W XR u t m)) (hb : PE X b (TG X W XR v s n)) :
    PE X (.Compare a [op] [b] pos) (TG X W XR false (t || s) (bin f m n)) := PEi (pe_cmpR ho ha hb hm) (t_bin hc (fun _ _ _ h => h) (fun _ _ _ h => h) hr)
/-- its truth -/
def truB : D → Option Bool
  | .bool b => some b
  | _ => none
def tstM (m : M D) : M Bool := M.bind m fun d => M.lift (truB d)
theorem bl_of {S : Addr → Prop} {H : Hp} {v : V} {d : D} {b : Bool} (h : Bd X.prog X.w X.K S H v d) (e : truB d = some b) : v = .bl b := by
  cases d with
  | bool c =>
    cases e
    rcases h with h | ⟨a, rfl, h⟩
    · cases h; rfl
    · exact h.elim
  | _ => cases e
theorem p_cmp {op : CmpOp} {r : R2} {f : D → D → Option D} {a b : Expr} {pos : Pos} {u v t s : Bool} {m n : M D} (ho : OpR X (compareOp op) r) (hr : Ser X r f) (hc : (u && s) = false) (hm : behindInMarks op b = false) (ha : PE X a (TG X W XR u t m)) (hb : PE X b (TG X W XR v s n)) :
    PT X (.Compare a [op] [b] pos) (TTs X W XR (t || s) (tstM (bin f m n))) := PTi (pt_cmpR ho ha hb hm) fun σ H Q ⟨F, ρ, R, z⟩ =>
  t_bin hc (fun _ _ _ h => h) (fun _ _ _ h => h) hr σ H _ ⟨F, ρ, R, Out.sat_mono (sat2 z) (fun d ρ1 k x H1 R1 K1 D1 => by
    obtain ⟨c, e1, k⟩ := satl k
    exact ⟨c, bl_of (D1.bd : Bd X.prog X.w X.K _ _ _ _) e1, k H1 R1 K1⟩) fun _ _ _ h => h⟩

/-! ### what the operators do -/
def mulOk (i j : Int) : Bool := Nat.ble (i.natAbs.log2 + j.natAbs.log2 + 2) 134217728
theorem mulOk.ok {i j : Int} (h : mulOk i j = true) : IntMulOk i j := by
  have h3 : i.natAbs.log2 + j.natAbs.log2 + 2 ≤ 134217728 := Nat.le_of_ble_eq_true h
  have b : ∀ x : Int, Builtin.Int.intBits x ≤ x.natAbs.log2 + 1 := fun x => by
    unfold Builtin.Int.intBits
    split <;> omega
  have h1 := b i
  have h2 := b j
  have e : Builtin.Int.intTooBig (Builtin.Int.intBits i + Builtin.Int.intBits j) = false := by
    unfold Builtin.Int.intTooBig
    have : bitsLine = 134217728 := by decide
    rw [this]
    exact decide_eq_false (by omega)
  unfold IntMulOk
  intro z
  rw [Bool.and_eq_true] at z
  have z2 := z.2
  rw [e] at z2
  cases z2
def divOk (j : Int) : Bool := decide (j ≠ 0) && Nat.blt j.natAbs.log2 9000
def addD : D → D → Option D
  | .int i, .int j => some (.int (i + j))
  | .str x, .str y => if szOk (x.length + y.length) then some (.str (x ++ y)) else none
  | .tuple xs, .tuple ys => if szOk (xs.length + ys.length) then some (.tuple (xs ++ ys)) else none
  | _, _ => none
def catD : D → D → Option D
  | .list xs, .list ys => if szOk (xs.length + ys.length) then some (.list (xs ++ ys)) else none
  | _, _ => none
def subD : D → D → Option D
  | .int i, .int j => some (.int (i - j))
  | _, _ => none
def mulD : D → D → Option D
  | .int i, .int j => if mulOk i j then some (.int (i * j)) else none
  | .tuple xs, .int k => if (!xs.isEmpty && decide (2 ≤ k) && decide (k ≤ 1000) && Nat.ble xs.length 1000) then some (.tuple (List.replicate k.toNat xs).flatten)
      else if (!xs.isEmpty && decide (k = 1)) then some (.tuple xs) else if (!xs.isEmpty && decide (k = 0)) then some (.tuple []) else none
  | _, _ => none
def fdivD : D → D → Option D
  | .int i, .int j => if divOk j then some (.int (i.fdiv j)) else none
  | _, _ => none
def modD : D → D → Option D
  | .int i, .int j => if decide (j ≠ 0) then some (.int (i.fmod j)) else none
  | _, _ => none
def powD : D → D → Option D
  | .int i, .int j => if decide (0 ≤ j) && decide (j ≤ 1000) && Nat.blt i.natAbs 18446744073709551616 then some (.int (i ^ j.toNat)) else none
  | _, _ => none
theorem int_of {S : Addr → Prop} {H : Hp} {v : V} {i : Int} (h : Bd X.prog X.w X.K S H v (.int i)) : v = .int i := by
  rcases h with h | ⟨a, rfl, h⟩
  · cases h; rfl
  · exact h.elim
theorem str_of {S : Addr → Prop} {H : Hp} {v : V} {i : Str} (h : Bd X.prog X.w X.K S H v (.str i)) : v = .str i := by
  rcases h with h | ⟨a, rfl, h⟩
  · cases h; rfl
  · exact h.elim
theorem tup_of {S : Addr → Prop} {H : Hp} {v : V} {ds : List D} (h : Bd X.prog X.w X.K S H v (.tuple ds)) : Dn X.prog X.w X.K S H v (.tuple ds) ∧ ∃ a xs, v = .ref a ∧ SqT X.K H a xs ∧ DnAll X.prog X.w X.K S H xs ds := by
  rcases h with h | ⟨a, rfl, h1⟩
  · exact ⟨h, by cases h with | tup h1 h2 => exact ⟨_, _, rfl, h1.sq, h2⟩⟩
  · exact h1.elim
theorem lst_of {S : Addr → Prop} {H : Hp} {v : V} {ds : List D} (h : Bd X.prog X.w X.K S H v (.list ds)) : ∃ a xs, v = .ref a ∧ SqL X.K H a xs ∧ DnAll X.prog X.w X.K S H xs ds := by
  rcases h with h | ⟨a, rfl, xs, h1, h2⟩
  · cases h with | lst h1 h2 => exact ⟨_, _, rfl, h1.sq, h2⟩
  · exact ⟨a, xs, rfl, h1, h2⟩
theorem g_upd {H : Hp} {p : Addr} {o : HO} (hp : H p = none) : ∀ b q, H b = some q → upd H p o b = some q := fun b q e => by rw [upd_ne (ne_of_none e hp)]; exact e
/-- a new tuple of data -/
theorem new_tup {F : Fr} {ρ : Env} {σ : Sg} {H : Hp} {p : Addr} {xs : List V} {ds : List D} {Q : VK} (R : Rel X.prog X.w X.K F ρ σ H) (hp : H p = none) (h : DnAll X.prog X.w X.K (Al F ρ σ) H xs ds)
    (k : ∀ v H', Rel X.prog X.w X.K F ρ σ H' → (∀ b o, H b = some o → H' b = some o) → Dn X.prog X.w X.K (Al F ρ σ) H' v (.tuple ds) → Q v H') : Q (.ref p) (upd H p (.tup xs)) :=
  k _ _ (R.grow (g_upd hp)) (g_upd hp) (.tup (.inl ⟨R.new hp, .inl upd_same⟩) (DnAll.mono (fun b o s q => ⟨s, g_upd hp b o q⟩) h))
/-- a new list of data -/
theorem new_lst {F : Fr} {ρ : Env} {σ : Sg} {H : Hp} {p : Addr} {xs : List V} {ds : List D} {Q : VK} (R : Rel X.prog X.w X.K F ρ σ H) (hp : H p = none) (h : DnAll X.prog X.w X.K (Al F ρ σ) H xs ds)
    (k : ∀ a H', Rel X.prog X.w X.K (F.but a) ρ σ H' → (∀ b o, H b = some o → H' b = some o) → H a = none → Ob X.prog X.w X.K (Al (F.but a) ρ σ) H' a (.list ds) → Q (.ref a) H') : Q (.ref p) (upd H p (.lst xs)) :=
  k p _ (R.alloc hp (g_upd hp) (by rw [upd_same]; exact fun z => nomatch z)) (g_upd hp) hp ⟨xs, upd_same, DnAll.mono (fun b o s q => ⟨⟨⟨s.1, ne_of_none q hp⟩, s.2⟩, g_upd hp b o q⟩) h⟩
/-- a tuple that stands already -/
theorem old_tup {F : Fr} {ρ : Env} {σ : Sg} {H : Hp} {v : V} {ds : List D} {Q : VK} (R : Rel X.prog X.w X.K F ρ σ H) (h : Dn X.prog X.w X.K (Al F ρ σ) H v (.tuple ds))
    (k : ∀ v H', Rel X.prog X.w X.K F ρ σ H' → (∀ b o, H b = some o → H' b = some o) → Dn X.prog X.w X.K (Al F ρ σ) H' v (.tuple ds) → Q v H') : Q v H := k _ _ R (fun _ _ q => q) h

/-! ### the operators -/
theorem ser_I0 {f : D → D → Option D} {g : Int → Int → V} {gd : Int → Int → D} (hf : ∀ d e z, f d e = some z → ∃ i j, d = .int i ∧ e = .int j ∧ z = gd i j)
    (hg : ∀ S H i j, Dn X.prog X.w X.K S H (g i j) (gd i j)) : Ser X (rI0 g) f := fun F ρ σ H x y d e z Q R bx byy ez k => by
  obtain ⟨i, j, rfl, rfl, rfl⟩ := hf d e z ez
  exact ⟨i, j, int_of bx, int_of byy, k _ H R (fun _ _ q => q) (hg _ _ _ _)⟩
def rAddAll (K : PySem.W.Frag) : R2 := fun x y H Q => rI0 (fun i j => .int (i + j)) x y H Q ∨ (∃ i j, x = .str i ∧ y = .str j ∧ i.length + j.length ≤ sizeLine ∧ Q (.str (i ++ j)) H) ∨ rCatA K x y H Q
theorem op_addAll : OpR X (binaryOp .Add) (rAddAll X.K) := OpR.or op_add (OpR.or op_add_str op_catA)
theorem ser_add : Ser X (rAddAll X.K) addD := fun F ρ σ H x y d e z Q R bx byy ez k => by
  cases d with
  | int i => cases e with
    | int j =>
      cases ez
      exact .inl ⟨i, j, int_of bx, int_of byy, k _ H R (fun _ _ q => q) (.int _)⟩
    | _ => cases ez
  | str i => cases e with
    | str j =>
      unfold addD at ez
      simp only at ez
      split at ez
      · rename_i hz
        cases ez
        exact .inr (.inl ⟨i, j, str_of bx, str_of byy, szOk_le hz, k _ H R (fun _ _ q => q) (.str _)⟩)
      · cases ez
    | _ => cases ez
  | tuple i => cases e with
    | tuple j =>
      unfold addD at ez
      simp only at ez
      split at ez
      · rename_i hz
        cases ez
        obtain ⟨dx, a, xs, rfl, h1, h2⟩ := tup_of bx
        obtain ⟨dy, b, ys, rfl, h3, h4⟩ := tup_of byy
        refine .inr (.inr ⟨a, b, xs, ys, rfl, rfl, h1, h3, by rw [h2.length, h4.length]; exact szOk_le hz, fun e => ?_, fun n e => ?_, fun _ _ p hp => new_tup R hp (h2.append h4) k⟩)
        · subst e
          cases h2
          exact k _ H R (fun _ _ q => q) (by simpa using dy)
        · subst e
          cases h4
          exact k _ H R (fun _ _ q => q) (by simpa using dx)
      · cases ez
    | _ => cases ez
  | _ => cases e <;> cases ez
theorem ser_sub : Ser X (rI0 fun i j => .int (i - j)) subD := ser_I0 (gd := fun i j => .int (i - j)) (fun d e z h => by
  cases d with
  | int i => cases e with
    | int j => cases h; exact ⟨i, j, rfl, rfl, rfl⟩
    | _ => cases h
  | _ => cases e <;> cases h) fun _ _ _ _ => .int _
def CMulD (i j : Int) : Prop := mulOk i j = true
theorem op_mulD : OpR X (binaryOp .Mult) (rI CMulD fun i j => .int (i * j)) := opI fun _ _ _ _ _ _ _ hc q => PyProof.Rows.mul_int q (mulOk.ok hc)
def CDivD (_ j : Int) : Prop := divOk j = true
theorem op_fdivD : OpR X (binaryOp .FloorDiv) (rI CDivD fun i j => .int (i.fdiv j)) := opI fun i j _ _ _ _ _ hc q => by
  unfold CDivD divOk at hc
  rw [Bool.and_eq_true] at hc
  exact PyProof.Rows.floordiv_int (of_decide_eq_true hc.1) q (.inl (PyProof.noPylong_of_log2 (Nat.le_of_ble_eq_true hc.2)))
def CPowD (i j : Int) : Prop := 0 ≤ j ∧ j ≤ 1000000 ∧ i.natAbs < 2 ^ 64
theorem ser_fdiv : Ser X (rI CDivD fun i j => .int (i.fdiv j)) fdivD := fun F ρ σ H x y d e z Q R bx byy ez k => by
  cases d with
  | int i => cases e with
    | int j =>
      unfold fdivD at ez
      simp only at ez
      split at ez
      · rename_i hz
        cases ez
        exact ⟨i, j, int_of bx, int_of byy, hz, k _ H R (fun _ _ q => q) (.int _)⟩
      · cases ez
    | _ => cases ez
  | _ => cases e <;> cases ez
theorem ser_mod : Ser X (rI (fun _ j => j ≠ 0) fun i j => .int (i.fmod j)) modD := fun F ρ σ H x y d e z Q R bx byy ez k => by
  cases d with
  | int i => cases e with
    | int j =>
      unfold modD at ez
      simp only at ez
      split at ez
      · rename_i hz
        cases ez
        exact ⟨i, j, int_of bx, int_of byy, of_decide_eq_true hz, k _ H R (fun _ _ q => q) (.int _)⟩
      · cases ez
    | _ => cases ez
  | _ => cases e <;> cases ez
theorem ser_pow : Ser X (rI CPow fun i j => .int (i ^ j.toNat)) powD := fun F ρ σ H x y d e z Q R bx byy ez k => by
  cases d with
  | int i => cases e with
    | int j =>
      unfold powD at ez
      simp only at ez
      split at ez
      · rename_i hz
        cases ez
        simp only [Bool.and_eq_true, decide_eq_true_eq] at hz
        have h3 : i.natAbs < 18446744073709551616 := Nat.le_of_ble_eq_true hz.2
        exact ⟨i, j, int_of bx, int_of byy, ⟨hz.1.1, by omega, h3⟩, k _ H R (fun _ _ q => q) (.int _)⟩
      · cases ez
    | _ => cases ez
  | _ => cases e <;> cases ez
def rRep1 (K : PySem.W.Frag) : R2 := fun x y H Q => ∃ l xs, x = .ref l ∧ y = .int 1 ∧ SqT K H l xs ∧ xs ≠ [] ∧ Q (.ref l) H

theorem tm_one (l : Addr) (its : Array Value) (n : Nat) (dd : Option Addr) (sl : Array (Option Value)) (u : Tok) :
    Meets (Builtin.«tuple.__mul__» ⟨[.ref l, .int 1 u], []⟩) (fun _ R s => s.heap.get? l = some { cls := .type "tuple", dict := dd, data := .seq its n, slots := sl } ∧ R (.ok (.ret (.ref l))) s) :=
  .of_wp fun prog w A R s ⟨hl, h⟩ => by
    obtain ⟨hp, g, d, tk, os⟩ := s
    have f1 := AutoSeq1.idx_int
    wp_walk using AutoSeq1.wpAny_loadPart' hl
    exact ⟨_, rfl, h⟩
theorem tm_zero (l : Addr) (its : Array Value) (n : Nat) (dd : Option Addr) (sl : Array (Option Value)) (u : Tok) (hi : its.isEmpty = false) :
    Meets (Builtin.«tuple.__mul__» ⟨[.ref l, .int 0 u], []⟩) (fun _ R s => s.heap.get? l = some { cls := .type "tuple", dict := dd, data := .seq its n, slots := sl } ∧
      R (.ok (.ret (.ref s.heap.objs.size))) { s with heap := s.heap.push { cls := .type "tuple", data := .seq #[] }, toks := s.toks }) :=
  .of_wp fun prog w A R s ⟨hl, h⟩ => by
    obtain ⟨hp, g, d, tk, os⟩ := s
    have f1 := AutoSeq1.idx_int
    wp_walk using AutoSeq1.wpAny_loadPart' hl
    exact ⟨_, rfl, h⟩
def rRep0 (K : PySem.W.Frag) : R2 := fun x y H Q => ∃ l xs, x = .ref l ∧ y = .int 0 ∧ SqT K H l xs ∧ xs ≠ [] ∧ ∀ p, H p = none → Q (.ref p) (upd H p (.tup []))
theorem op_rep1 : OpR X (binaryOp .Mult) (rRep1 X.K) := by
  intro pins s σ H x y v u Q I rx ry h
  obtain ⟨l, xs, rfl, rfl, hT, hne, q⟩ := h
  cases rx
  obtain ⟨t, rfl⟩ := ry
  obtain ⟨its, r, ⟨⟨cls, dd, data, sl⟩, ho, hc, n, hd⟩, hs⟩ := I.tuple hT
  simp only at hc hd
  subst hc hd
  exact wpAny_binaryOp_repeat_ref (T := "tuple") (U := "int") (by decide) ⟨_, ho, rfl⟩ (fun s' => typeIs_int s' 1 t) noFill_tuple_mul F.fills_int_mul F.slot_int_rmul repeat_tuple F.slot_int_index.lookup
    (call_meets F.slot_int_rmul (typeIs_int s 1 t) F.entry_int_rmul (F.args_int_rmul_2 _ _) (int_rmul_tuple 1 t l its.toArray n dd sl)
      ⟨ho, rfl, ⟨_, ho, rfl⟩, call_meets F.slot_tuple_mul ⟨_, ho, rfl⟩ F.entry_tuple_mul (F.args_tuple_mul_2 _ _) (tm_one l its.toArray n dd sl t) ⟨ho, ⟨.ref l, H, I, rfl, q⟩⟩⟩)
theorem op_rep0 : OpR X (binaryOp .Mult) (rRep0 X.K) := by
  intro pins s σ H x y v u Q I rx ry h
  obtain ⟨l, xs, rfl, rfl, hT, hne, q⟩ := h
  cases rx
  obtain ⟨t, rfl⟩ := ry
  obtain ⟨its, r, ⟨⟨cls, dd, data, sl⟩, ho, hc, n, hd⟩, hs⟩ := I.tuple hT
  simp only at hc hd
  subst hc hd
  have hi : its.toArray.isEmpty = false := by
    cases its with
    | nil => cases r; exact absurd rfl hne
    | cons a b => rfl
  refine wpAny_binaryOp_repeat_ref (T := "tuple") (U := "int") (by decide) ⟨_, ho, rfl⟩ (fun s' => typeIs_int s' 0 t) noFill_tuple_mul F.fills_int_mul F.slot_int_rmul repeat_tuple F.slot_int_index.lookup
    (call_meets F.slot_int_rmul (typeIs_int s 0 t) F.entry_int_rmul (F.args_int_rmul_2 _ _) (int_rmul_tuple 0 t l its.toArray n dd sl)
      ⟨ho, rfl, ⟨_, ho, rfl⟩, call_meets F.slot_tuple_mul ⟨_, ho, rfl⟩ F.entry_tuple_mul (F.args_tuple_mul_2 _ _) (tm_zero l its.toArray n dd sl t hi) ⟨ho, ?_⟩⟩)
  refine ⟨.ref s.heap.objs.size, _, I.laid (t' := s.toks) (o := .tup []) (fun b ob q => Heap.get?_push_of_some _ q) (Nat.le_refl _) ?_, rfl, q _ (I.hok.fresh (Nat.le_refl _))⟩
  exact ⟨Nat.zero_le _, [], .nil, PyProof.Rows.IsTup.new _ _⟩
def rMulAll (K : PySem.W.Frag) : R2 := fun x y H Q => rI CMulD (fun i j => .int (i * j)) x y H Q ∨ rRepT K x y H Q ∨ rRep1 K x y H Q ∨ rRep0 K x y H Q
theorem op_mulAll : OpR X (binaryOp .Mult) (rMulAll X.K) := OpR.or op_mulD (OpR.or op_repT (OpR.or op_rep1 op_rep0))
theorem DnAll.rep {S : Addr → Prop} {H : Hp} {xs : List V} {ds : List D} (h : DnAll X.prog X.w X.K S H xs ds) : ∀ k : Nat, DnAll X.prog X.w X.K S H (List.replicate k xs).flatten (List.replicate k ds).flatten
  | 0 => .nil
  | k + 1 => by
    rw [List.replicate_succ, List.replicate_succ, List.flatten_cons, List.flatten_cons]
    exact h.append (DnAll.rep h k)
theorem DnAll.ne {S : Addr → Prop} {H : Hp} {xs : List V} {ds : List D} (h : DnAll X.prog X.w X.K S H xs ds) (hd : (!ds.isEmpty) = true) : xs ≠ [] := fun e => by
  subst e
  cases h
  cases hd
theorem ser_mul : Ser X (rMulAll X.K) mulD := fun F ρ σ H x y d e z Q R bx byy ez k => by
  cases d with
  | int i => cases e with
    | int j =>
      unfold mulD at ez
      simp only at ez
      split at ez
      · rename_i hz
        cases ez
        exact .inl ⟨i, j, int_of bx, int_of byy, hz, k _ H R (fun _ _ q => q) (.int _)⟩
      · cases ez
    | _ => cases ez
  | tuple i => cases e with
    | int j =>
      unfold mulD at ez
      simp only at ez
      obtain ⟨dx, a, xs, rfl, h1, h2⟩ := tup_of bx
      have hy := int_of byy
      split at ez
      · rename_i hz
        cases ez
        simp only [Bool.and_eq_true, decide_eq_true_eq] at hz
        obtain ⟨⟨⟨e1, e2⟩, e3⟩, e4⟩ := hz
        exact .inr (.inl ⟨a, j, xs, rfl, hy, h1, h2.ne e1, e2, e3, by rw [h2.length]; exact Nat.le_of_ble_eq_true e4, fun p hp => new_tup R hp (h2.rep _) k⟩)
      · split at ez
        · rename_i hz
          cases ez
          simp only [Bool.and_eq_true, decide_eq_true_eq] at hz
          obtain ⟨e1, rfl⟩ := hz
          exact .inr (.inr (.inl ⟨a, xs, rfl, hy, h1, h2.ne e1, k _ H R (fun _ _ q => q) dx⟩))
        · split at ez
          · rename_i hz
            cases ez
            simp only [Bool.and_eq_true, decide_eq_true_eq] at hz
            obtain ⟨e1, rfl⟩ := hz
            exact .inr (.inr (.inr ⟨a, xs, rfl, hy, h1, h2.ne e1, fun p hp => new_tup R hp .nil k⟩))
          · cases ez
    | _ => cases ez
  | _ => cases e <;> cases ez

/-! ### comparisons -/
def eqD (d e : D) : Option D := if SeqAt.shaped d && SeqAt.shaped e then some (.bool (PyData.eqv d e)) else none
def neD (d e : D) : Option D := if SeqAt.shaped d && SeqAt.shaped e then some (.bool (!PyData.eqv d e)) else none
theorem Bd.dp {S : Addr → Prop} {H : Hp} {v : V} {d : D} (hs : SeqAt.shaped d = true) (h : Bd X.prog X.w X.K S H v d) : Dp X.K H v d := by
  have c := SeqAt.canLay_of_shaped hs
  rcases h with h | ⟨a, rfl, h⟩
  · exact Dn.dp c h
  · cases d with
    | list ds =>
      obtain ⟨xs, h1, h2⟩ := h
      exact .lst h1 (DnAll.dp (by simpa [PyData.canLay0] using c) h2)
    | dict ds => simp [PyData.canLay0] at c
    | _ => exact h.elim
theorem ser_eq : Ser X (rEqD X.K) eqD := fun F ρ σ H x y d e z Q R bx byy ez k => by
  unfold eqD at ez
  split at ez
  · rename_i hz
    cases ez
    rw [Bool.and_eq_true] at hz
    exact ⟨d, e, bx.dp hz.1, byy.dp hz.2, hz.1, hz.2, k _ H R (fun _ _ q => q) (.bl _)⟩
  · cases ez
theorem ser_ne : Ser X (rNeD X.K) neD := fun F ρ σ H x y d e z Q R bx byy ez k => by
  unfold neD at ez
  split at ez
  · rename_i hz
    cases ez
    rw [Bool.and_eq_true] at hz
    exact ⟨d, e, bx.dp hz.1, byy.dp hz.2, hz.1, hz.2, k _ H R (fun _ _ q => q) (.bl _)⟩
  · cases ez
def cmpI (p : Int → Int → Bool) : D → D → Option D
  | .int i, .int j => some (.bool (p i j))
  | _, _ => none
theorem ser_cmpI {p : Int → Int → Bool} : Ser X (rI0 fun i j => .bl (p i j)) (cmpI p) := ser_I0 (gd := fun i j => .bool (p i j)) (fun d e z h => by
  cases d with
  | int i => cases e with
    | int j => cases h; exact ⟨i, j, rfl, rfl, rfl⟩
    | _ => cases h
  | _ => cases e <;> cases h) fun _ _ _ _ => .bl _
/-- < of alike data -/
def isNone : D → Bool
  | .none => true
  | _ => false
def ltOk (d e : D) : Bool := SeqAt.shaped d && SeqAt.shaped e && PySem.W.alike d e && !isNone d
def ltD : D → D → Option D := fun d e => if ltOk d e then some (.bool (PySem.W.dataLt d e)) else none
def rLtD (K : PySem.W.Frag) : R2 := fun x y H Q => ∃ d e, Dp K H x d ∧ Dp K H y e ∧ ltOk d e = true ∧ Q (.bl (PySem.W.dataLt d e)) H
theorem op_ltD (hu : X.A.units + 64 < cLine) : OpR X (compareOp .Lt) (rLtD X.K) := by
  intro pins s σ H x y v u Q I rx ry h
  obtain ⟨d, e, hd, he, hk, q⟩ := h
  unfold ltOk at hk
  simp only [Bool.and_eq_true] at hk
  obtain ⟨⟨⟨k1, k2⟩, k3⟩, k4⟩ := hk
  obtain ⟨as, r1⟩ := Dp.reads I d x v hd rx
  obtain ⟨bs, r2⟩ := Dp.reads I e y u he ry
  have dn : d ≠ .none := fun z => by subst z; cases k4
  exact PySem.W.rcLt_alike d e X.A s v u as bs r1 r2 k3 dn (SeqAt.room_of_shaped k1 hu) X.prog X.w X.xe _ ⟨.bl _, H, I, rfl, q⟩
theorem ser_lt : Ser X (rLtD X.K) ltD := fun F ρ σ H x y d e z Q R bx byy ez k => by
  unfold ltD at ez
  split at ez
  · rename_i hz
    cases ez
    have hz2 := hz
    unfold ltOk at hz2
    simp only [Bool.and_eq_true] at hz2
    exact ⟨d, e, bx.dp hz2.1.1.1, byy.dp hz2.1.1.2, hz, k _ H R (fun _ _ q => q) (.bl _)⟩
  · cases ez
def isND (d e : D) : Option D := if isNone e then some (.bool (isNone d)) else none
def notND (d e : D) : Option D := if isNone e then some (.bool (!isNone d)) else none
theorem none_iff {S : Addr → Prop} {H : Hp} {v : V} {d : D} (h : Bd X.prog X.w X.K S H v d) : decide (v = .non) = isNone d := by
  rcases h with h | ⟨a, rfl, h⟩
  · cases h <;> first | rfl | exact decide_eq_false (fun z => nomatch z)
  · cases d with
    | none => exact h.elim
    | _ => exact decide_eq_false (fun z => nomatch z)
theorem ser_is : Ser X (fun x y H Q => y = .non ∧ Q (.bl (decide (x = .non))) H) isND := fun F ρ σ H x y d e z Q R bx byy ez k => by
  unfold isND at ez
  split at ez
  · rename_i hz
    cases ez
    have := none_iff byy
    rw [hz] at this
    refine ⟨of_decide_eq_true this, ?_⟩
    rw [none_iff bx]
    exact k _ H R (fun _ _ q => q) (.bl _)
  · cases ez
theorem ser_isnot : Ser X (fun x y H Q => y = .non ∧ Q (.bl (!decide (x = .non))) H) notND := fun F ρ σ H x y d e z Q R bx byy ez k => by
  unfold notND at ez
  split at ez
  · rename_i hz
    cases ez
    have := none_iff byy
    rw [hz] at this
    refine ⟨of_decide_eq_true this, ?_⟩
    rw [none_iff bx]
    exact k _ H R (fun _ _ q => q) (.bl _)
  · cases ez
def inD (d e : D) : Option D := match itemsD e with
  | some ds => if SeqAt.shaped d && SeqAt.shaped e then some (.bool (ds.any fun z => PyData.eqv z d)) else none
  | none => none
def notInD (d e : D) : Option D := match itemsD e with
  | some ds => if SeqAt.shaped d && SeqAt.shaped e then some (.bool (!ds.any fun z => PyData.eqv z d)) else none
  | none => none
def rInA (K : PySem.W.Frag) : R2 := fun x y H Q => ∃ d e ds, Dp K H x d ∧ Dp K H y e ∧ itemsD e = some ds ∧ SeqAt.shaped d = true ∧ SeqAt.shaped e = true ∧ Q (.bl (ds.any fun z => PyData.eqv z d)) H
def rNotInA (K : PySem.W.Frag) : R2 := fun x y H Q => ∃ d e ds, Dp K H x d ∧ Dp K H y e ∧ itemsD e = some ds ∧ SeqAt.shaped d = true ∧ SeqAt.shaped e = true ∧ Q (.bl (!ds.any fun z => PyData.eqv z d)) H
theorem op_inA (hu : X.A.units + 65 < cLine) : OpR X (compareOp .In) (rInA X.K) := by
  intro pins s σ H x y v u Q I rx ry h
  obtain ⟨d, e, ds, hd, he, hi, sd, se, q⟩ := h
  obtain ⟨as, r1⟩ := Dp.reads I d x v hd rx
  obtain ⟨bs, r2⟩ := Dp.reads I e y u he ry
  cases e with
  | list es => cases hi; exact SeqAt.in_list_reads r2 r1 (SeqAt.canLay_of_shaped se) (SeqAt.canLay_of_shaped sd) (PyProof.Rows.room_in_shaped sd hu) ⟨.bl _, H, I, rfl, q⟩
  | tuple es => cases hi; exact SeqAt.in_tuple_reads r2 r1 (SeqAt.canLay_of_shaped se) (SeqAt.canLay_of_shaped sd) (PyProof.Rows.room_in_shaped sd hu) ⟨.bl _, H, I, rfl, q⟩
  | _ => cases hi
theorem op_notInA (hu : X.A.units + 65 < cLine) : OpR X (compareOp .NotIn) (rNotInA X.K) := by
  intro pins s σ H x y v u Q I rx ry h
  obtain ⟨d, e, ds, hd, he, hi, sd, se, q⟩ := h
  obtain ⟨as, r1⟩ := Dp.reads I d x v hd rx
  obtain ⟨bs, r2⟩ := Dp.reads I e y u he ry
  cases e with
  | list es => cases hi; exact SeqAt.notIn_list_reads r2 r1 (SeqAt.canLay_of_shaped se) (SeqAt.canLay_of_shaped sd) (PyProof.Rows.room_in_shaped sd hu) ⟨.bl _, H, I, rfl, q⟩
  | tuple es => cases hi; exact SeqAt.notIn_tuple_reads r2 r1 (SeqAt.canLay_of_shaped se) (SeqAt.canLay_of_shaped sd) (PyProof.Rows.room_in_shaped sd hu) ⟨.bl _, H, I, rfl, q⟩
  | _ => cases hi
theorem ser_in : Ser X (rInA X.K) inD := fun F ρ σ H x y d e z Q R bx byy ez k => by
  unfold inD at ez
  split at ez
  · rename_i ds hi
    split at ez
    · rename_i hz
      cases ez
      rw [Bool.and_eq_true] at hz
      exact ⟨d, e, ds, bx.dp hz.1, byy.dp hz.2, hi, hz.1, hz.2, k _ H R (fun _ _ q => q) (.bl _)⟩
    · cases ez
  · cases ez
theorem ser_notIn : Ser X (rNotInA X.K) notInD := fun F ρ σ H x y d e z Q R bx byy ez k => by
  unfold notInD at ez
  split at ez
  · rename_i ds hi
    split at ez
    · rename_i hz
      cases ez
      rw [Bool.and_eq_true] at hz
      exact ⟨d, e, ds, bx.dp hz.1, byy.dp hz.2, hi, hz.1, hz.2, k _ H R (fun _ _ q => q) (.bl _)⟩
    · cases ez
  · cases ez
end
end Rf
end
section
set_option Elab.async false
set_option linter.all false
set_option maxRecDepth 100000
set_option maxHeartbeats 2000000
/-! Rf, part C: tests, and, or, subscripts, slices. -/
namespace Rf
open PySem PySem.Spec L2
section
variable {X : Cx} {W : WX} {XR : XRep}
/-! ### truth -/
def truD : D → Option Bool
  | .none => some false
  | .bool b => some b
  | .int i => some (i != 0)
  | .str x => if szOk x.length then some ((x.length : Int) != 0) else none
  | .list ds => some (!ds.isEmpty)
  | .tuple ds => some (!ds.isEmpty)
  | .dict _ => none
theorem DnAll.emp {S : Addr → Prop} {H : Hp} {xs : List V} {ds : List D} (h : DnAll X.prog X.w X.K S H xs ds) : ds.isEmpty = xs.isEmpty := by cases h <;> rfl
theorem tru_of {S : Addr → Prop} {H : Hp} {v : V} {d : D} {b : Bool} (h : Bd X.prog X.w X.K S H v d) (e : truD d = some b) : TruV X.K v H b := by
  cases d with
  | none =>
    cases e
    rcases h with h | ⟨a, rfl, h⟩
    · cases h; rfl
    · exact h.elim
  | bool c =>
    cases e
    rcases h with h | ⟨a, rfl, h⟩
    · cases h; rfl
    · exact h.elim
  | int i =>
    cases e
    rw [int_of h]
    rfl
  | str x =>
    rw [str_of h]
    unfold truD at e
    simp only at e
    split at e
    · rename_i hz
      cases e
      exact ⟨szOk_le hz, rfl⟩
    · cases e
  | list ds =>
    cases e
    obtain ⟨a, xs, rfl, h1, h2⟩ := lst_of h
    exact .inl ⟨xs, h1, by rw [h2.emp]⟩
  | tuple ds =>
    cases e
    obtain ⟨_, a, xs, rfl, h1, h2⟩ := tup_of h
    exact .inr (.inl ⟨xs, h1, by rw [h2.emp]⟩)
  | dict _ => cases e
def truM (m : M D) : M Bool := M.bind m fun d => M.lift (truD d)
theorem p_tru {e : Expr} {u t : Bool} {m : M D} (h : PE X e (TG X W XR u t m)) (he : ∀ whole, isTrue e X.env whole = (do let v ← whole; standAt e.pos; holding [v] (truthy v))) : PT X e (TTs X W XR t (truM m)) :=
  PTi (pt_truth h he) fun σ H Q ⟨F, ρ, R, z⟩ => ⟨F, ρ, R, Out.sat_mono (sat2 z) (fun d ρ1 k x H1 R1 K1 D1 => by
    obtain ⟨b, e1, k⟩ := satl k
    exact ⟨b, tru_of (D1.bd : Bd X.prog X.w X.K _ _ _ _) e1, k H1 R1 K1⟩) fun _ _ _ h => h⟩

/-! ### and, or, not as tests -/
def andT (a b : M Bool) : M Bool := M.bind a fun c => if c = true then b else M.pure false
def orT (a b : M Bool) : M Bool := M.bind a fun c => if c = true then M.pure true else b
def notT (a : M Bool) : M Bool := M.bind a fun c => M.pure (!c)
theorem w_and1 {a : Expr} {pos : Pos} {t : Bool} {m : M Bool} (h : PT X a (TTs X W XR t m)) : PW X (.BoolOp .And [a] pos) (TTs X W XR t m) := pw_and1 h
theorem w_or1 {a : Expr} {pos : Pos} {t : Bool} {m : M Bool} (h : PT X a (TTs X W XR t m)) : PW X (.BoolOp .Or [a] pos) (TTs X W XR t m) := pw_or1 h
theorem w_and {a b : Expr} {r : List Expr} {pos : Pos} {t u : Bool} {m n : M Bool} (h : PT X a (TTs X W XR t m)) (k : PW X (.BoolOp .And (b :: r) pos) (TTs X W XR u n)) : PW X (.BoolOp .And (a :: b :: r) pos) (TTs X W XR (t || u) (andT m n)) :=
  PWi (pw_and h k) fun σ H Q ⟨F, ρ, R, z⟩ => ⟨F, ρ, R, Out.sat_mono (sat2 z) (fun c ρ1 k H1 R1 K1 => by
    cases c with
    | true => exact ⟨F, ρ1, R1, Out.sat_mono k (fun d ρ2 k2 H2 R2 K2 => k2 H2 R2 (K1.trans K2)) fun _ _ _ h => h⟩
    | false => exact k H1 R1 (K1.up (by simp +contextual))) fun _ _ _ h => h⟩
theorem w_or {a b : Expr} {r : List Expr} {pos : Pos} {t u : Bool} {m n : M Bool} (h : PT X a (TTs X W XR t m)) (k : PW X (.BoolOp .Or (b :: r) pos) (TTs X W XR u n)) : PW X (.BoolOp .Or (a :: b :: r) pos) (TTs X W XR (t || u) (orT m n)) :=
  PWi (pw_or h k) fun σ H Q ⟨F, ρ, R, z⟩ => ⟨F, ρ, R, Out.sat_mono (sat2 z) (fun c ρ1 k H1 R1 K1 => by
    cases c with
    | false => exact ⟨F, ρ1, R1, Out.sat_mono k (fun d ρ2 k2 H2 R2 K2 => k2 H2 R2 (K1.trans K2)) fun _ _ _ h => h⟩
    | true => exact k H1 R1 (K1.up (by simp +contextual))) fun _ _ _ h => h⟩
theorem p_not {a : Expr} {pos : Pos} {t : Bool} {m : M Bool} (h : PT X a (TTs X W XR t m)) : PT X (.UnaryOp .Not a pos) (TTs X W XR t (notT m)) :=
  PTi (pt_not h) fun σ H Q ⟨F, ρ, R, z⟩ => ⟨F, ρ, R, Out.sat_mono (sat2 z) (fun c ρ1 k H1 R1 K1 => k H1 R1 K1) fun _ _ _ h => h⟩

/-! ### .. as values -/
def andM (a b : M D) : M D := M.bind a fun d => M.bind (M.lift (truD d)) fun c => if c = true then b else M.pure d
def orM (a b : M D) : M D := M.bind a fun d => M.bind (M.lift (truD d)) fun c => if c = true then M.pure d else b
theorem e_one {op : BoolOp} {a : Expr} {pos : Pos} {u t : Bool} {m : M D} (h : PE X a (TG X W XR u t m)) : PE X (.BoolOp op [a] pos) (TG X W XR u t m) := pe_one h
theorem f_one {op : BoolOp} {a : Expr} {pos : Pos} {t : Bool} {m : M D} (h : PE X a (TF X W XR t m)) : PE X (.BoolOp op [a] pos) (TF X W XR t m) := pe_one h
theorem e_and {a b : Expr} {r : List Expr} {pos : Pos} {t u : Bool} {m n : M D} (h : PE X a (TG X W XR false t m)) (k : PE X (.BoolOp .And (b :: r) pos) (TG X W XR false u n)) : PE X (.BoolOp .And (a :: b :: r) pos) (TG X W XR false (t || u) (andM m n)) :=
  PEi (pe_andT h k) fun σ H Q ⟨F, ρ, R, z⟩ => ⟨F, ρ, R, Out.sat_mono (sat2 z) (fun d ρ1 k x H1 R1 K1 D1 => by
    obtain ⟨c, e1, k⟩ := satl (sat2 k)
    refine ⟨c, tru_of (D1.bd : Bd X.prog X.w X.K _ _ _ _) e1, ?_⟩
    cases c with
    | true => exact ⟨F, ρ1, R1, Out.sat_mono k (fun d ρ2 k2 v H2 R2 K2 D2 => k2 v H2 R2 (K1.trans K2) D2) fun _ _ _ h => h⟩
    | false => exact k x H1 R1 (K1.up (by simp +contextual)) D1) fun _ _ _ h => h⟩
theorem e_or {a b : Expr} {r : List Expr} {pos : Pos} {t u : Bool} {m n : M D} (h : PE X a (TG X W XR false t m)) (k : PE X (.BoolOp .Or (b :: r) pos) (TG X W XR false u n)) : PE X (.BoolOp .Or (a :: b :: r) pos) (TG X W XR false (t || u) (orM m n)) :=
  PEi (pe_orT h k) fun σ H Q ⟨F, ρ, R, z⟩ => ⟨F, ρ, R, Out.sat_mono (sat2 z) (fun d ρ1 k x H1 R1 K1 D1 => by
    obtain ⟨c, e1, k⟩ := satl (sat2 k)
    refine ⟨c, tru_of (D1.bd : Bd X.prog X.w X.K _ _ _ _) e1, ?_⟩
    cases c with
    | false => exact ⟨F, ρ1, R1, Out.sat_mono k (fun d ρ2 k2 v H2 R2 K2 D2 => k2 v H2 R2 (K1.trans K2) D2) fun _ _ _ h => h⟩
    | true => exact k x H1 R1 (K1.up (by simp +contextual)) D1) fun _ _ _ h => h⟩
/-- x or y, both made -/
theorem f_or {a b : Expr} {r : List Expr} {pos : Pos} {t u : Bool} {m n : M D} (h : PE X a (TF X W XR t m)) (k : PE X (.BoolOp .Or (b :: r) pos) (TF X W XR u n)) : PE X (.BoolOp .Or (a :: b :: r) pos) (TF X W XR (t || u) (orM m n)) :=
  PEi (pe_orT h k) fun σ H Q ⟨F, ρ, R, z⟩ => ⟨F, ρ, R, Out.sat_mono (sat2 z) (fun d ρ1 k x H1 R1 K1 n1 D1 => by
    obtain ⟨c, e1, k⟩ := satl (sat2 k)
    refine ⟨c, tru_of (.inr ⟨x, rfl, D1.rb⟩ : Bd X.prog X.w X.K (Al (F.but x) ρ1 σ) H1 (.ref x) d) e1, ?_⟩
    cases c with
    | false => exact ⟨F, ρ1, R1.but (fun _ => R.fresh x n1), Out.sat_mono k (fun d ρ2 k2 v H2 R2 K2 n2 D2 => k2 v H2 R2 (K1.trans K2) (K1.none n2) D2) fun _ _ _ h => h⟩
    | true => exact k x H1 R1 (K1.up (by simp +contextual)) n1 D1) fun _ _ _ h => h⟩
def notM (a : M D) : M D := M.bind a fun d => M.bind (M.lift (truD d)) fun c => M.pure (.bool (!c))
theorem e_not {a : Expr} {pos : Pos} {u t : Bool} {m : M D} (h : PE X a (TG X W XR u t m)) : PE X (.UnaryOp .Not a pos) (TG X W XR false t (notM m)) :=
  PEi (pe_notT h) fun σ H Q ⟨F, ρ, R, z⟩ => ⟨F, ρ, R, Out.sat_mono (sat2 z) (fun d ρ1 k x H1 R1 K1 D1 => by
    obtain ⟨c, e1, k⟩ := satl (sat2 k)
    exact ⟨c, tru_of (D1.bd : Bd X.prog X.w X.K _ _ _ _) e1, k _ H1 R1 K1 (.bl _)⟩) fun _ _ _ h => h⟩
def negM (a : M D) : M D := M.bind a fun d => M.lift (match d with | .int i => some (.int (-i)) | _ => none)
theorem e_neg {a : Expr} {pos : Pos} {u t : Bool} {m : M D} (h : PE X a (TG X W XR u t m)) : PE X (.UnaryOp .USub a pos) (TG X W XR false t (negM m)) :=
  PEi (pe_un un_neg h) fun σ H Q ⟨F, ρ, R, z⟩ => ⟨F, ρ, R, Out.sat_mono (sat2 z) (fun d ρ1 k x H1 R1 K1 D1 => by
    obtain ⟨c, e1, k⟩ := satl k
    cases d with
    | int i => cases e1; exact ⟨i, int_of (D1.bd : Bd X.prog X.w X.K _ _ _ _), k _ H1 R1 K1 (.int _)⟩
    | _ => cases e1) fun _ _ _ h => h⟩
def iteM {α : Type} (c : M Bool) (a b : M α) : M α := M.bind c fun k => if k = true then a else b
theorem e_ite {c a b : Expr} {pos : Pos} {s t u v : Bool} {p : M Bool} {m n : M D} (hc : PT X c (TTs X W XR s p)) (ha : PE X a (TG X W XR v t m)) (hb : PE X b (TG X W XR v u n)) : PE X (.IfExp c a b pos) (TG X W XR v (s || (t || u)) (iteM p m n)) :=
  PEi (pe_ifExp hc ha hb) fun σ H Q ⟨F, ρ, R, z⟩ => ⟨F, ρ, R, Out.sat_mono (sat2 z) (fun k ρ1 z1 H1 R1 K1 => by
    cases k with
    | true => exact ⟨F, ρ1, R1, Out.sat_mono z1 (fun d ρ2 k2 v H2 R2 K2 D2 => k2 v H2 R2 ((K1.trans K2).up (by simp +contextual; rintro (h | h) <;> simp [h])) D2) fun _ _ _ h => h⟩
    | false => exact ⟨F, ρ1, R1, Out.sat_mono z1 (fun d ρ2 k2 v H2 R2 K2 D2 => k2 v H2 R2 ((K1.trans K2).up (by simp +contextual; rintro (h | h) <;> simp [h])) D2) fun _ _ _ h => h⟩) fun _ _ _ h => h⟩
theorem f_ite {c a b : Expr} {pos : Pos} {s t u : Bool} {p : M Bool} {m n : M D} (hc : PT X c (TTs X W XR s p)) (ha : PE X a (TF X W XR t m)) (hb : PE X b (TF X W XR u n)) : PE X (.IfExp c a b pos) (TF X W XR (s || (t || u)) (iteM p m n)) :=
  PEi (pe_ifExp hc ha hb) fun σ H Q ⟨F, ρ, R, z⟩ => ⟨F, ρ, R, Out.sat_mono (sat2 z) (fun k ρ1 z1 H1 R1 K1 => by
    cases k with
    | true => exact ⟨F, ρ1, R1, Out.sat_mono z1 (fun d ρ2 k2 v H2 R2 K2 n2 D2 => k2 v H2 R2 ((K1.trans K2).up (by simp +contextual; rintro (h | h) <;> simp [h])) (K1.none n2) D2) fun _ _ _ h => h⟩
    | false => exact ⟨F, ρ1, R1, Out.sat_mono z1 (fun d ρ2 k2 v H2 R2 K2 n2 D2 => k2 v H2 R2 ((K1.trans K2).up (by simp +contextual; rintro (h | h) <;> simp [h])) (K1.none n2) D2) fun _ _ _ h => h⟩) fun _ _ _ h => h⟩
/-- the truth of a value whose own test is not told apart -/
theorem e_tt {e : Expr} {t : Bool} {m : M D} {p : M Bool} (h : PT X e (TTs X W XR t p)) : PT X e (TTs X W XR t p) := h

/-! ### a[b] -/
def ixD : D → D → Option D
  | .list ds, .int i => atI ds i
  | .tuple ds, .int i => atI ds i
  | .str z, .int i => if szOk z.length then (atI z.cps.toList i).map fun c => .str ⟨#[c]⟩ else none
  | _, _ => none
theorem DnAll.at {S : Addr → Prop} {H : Hp} {xs : List V} {ds : List D} {i : Int} {d : D} (h : DnAll X.prog X.w X.K S H xs ds) (e : atI ds i = some d) : ∃ v, atI xs i = some v ∧ Dn X.prog X.w X.K S H v d := by
  unfold atI at e ⊢
  rw [h.length]
  cases q : ixN ds.length i with
  | none => rw [q] at e; cases e
  | some j =>
    rw [q] at e
    obtain ⟨v, h1, h2⟩ := h.get' (show ds[j]? = some d from e)
    exact ⟨v, h1, h2⟩
theorem ser_ix : Ser X (rIx X.K) ixD := fun F ρ σ H x y d e z Q R bx byy ez k => by
  cases e with
  | int i =>
    have hy := int_of byy
    cases d with
    | list ds =>
      obtain ⟨a, xs, rfl, h1, h2⟩ := lst_of bx
      obtain ⟨v, h3, h4⟩ := h2.at ez
      exact .inl ⟨a, xs, i, v, rfl, hy, h1, h3, k v H R (fun _ _ q => q) h4⟩
    | tuple ds =>
      obtain ⟨_, a, xs, rfl, h1, h2⟩ := tup_of bx
      obtain ⟨v, h3, h4⟩ := h2.at ez
      exact .inr (.inl ⟨a, xs, i, v, rfl, hy, h1, h3, k v H R (fun _ _ q => q) h4⟩)
    | str s =>
      unfold ixD at ez
      simp only at ez
      split at ez
      · rename_i hz
        obtain ⟨c, e1, e2⟩ := Option.map_eq_some_iff.mp ez
        subst e2
        exact .inr (.inr ⟨s, i, c, str_of bx, hy, szOk_le hz, e1, k _ H R (fun _ _ q => q) (.str _)⟩)
      · cases ez
    | _ => cases ez
  | _ => cases d <;> cases ez
theorem e_ix {a b : Expr} {pos : Pos} {u v t s : Bool} {m n : M D} (hc : (u && s) = false) (hs : PlainIx b) (ha : PE X a (TG X W XR u t m)) (hb : PE X b (TG X W XR v s n)) : PE X (.Subscript a b pos) (TG X W XR false (t || s) (bin ixD m n)) :=
  PEi (pe_ix ix_seq ha hb hs) (t_bin hc (fun _ _ _ h => h) (fun _ _ _ h => h) ser_ix)

/-! ### a[lo:hi] -/
abbrev TOs (X : Cx) (W : WX) (XR : XRep) (t : Bool) (m : M (Option Int)) : TO := fun σ H Q => ∃ F ρ, Rel X.prog X.w X.K F ρ σ H ∧
  (m ρ).sat (fun d ρ' => ∀ H', Rel X.prog X.w X.K F ρ' σ H' → Kp t ρ ρ' σ H H' → Q d H') (Xw X.prog X.w X.K W XR F σ)
theorem POi {X : Cx} {e : Option Expr} {t t' : TO} (h : PO X e t) (i : ∀ σ H Q, t' σ H Q → t σ H Q) : PO X e t' := ⟨fun p s σ H Q I z => h.run p s σ H Q I (i σ H Q z)⟩
def noPt : M (Option Int) := M.pure none
def somePt (m : M D) : M (Option Int) := M.bind m fun d => M.lift (match d with | .int i => some (some i) | _ => none)
theorem o_none : PO X none (TOs X W XR false noPt) := POi po_none fun σ H Q ⟨F, ρ, R, z⟩ => z H R .refl
theorem o_some {e : Expr} {u t : Bool} {m : M D} (h : PE X e (TG X W XR u t m)) : PO X (some e) (TOs X W XR t (somePt m)) := POi (po_some h) fun σ H Q ⟨F, ρ, R, z⟩ =>
  ⟨F, ρ, R, Out.sat_mono (sat2 z) (fun d ρ1 k x H1 R1 K1 D1 => by
    obtain ⟨c, e1, k⟩ := satl k
    cases d with
    | int i => cases e1; exact ⟨i, int_of (D1.bd : Bd X.prog X.w X.K _ _ _ _), k H1 R1 K1⟩
    | _ => cases e1) fun _ _ _ h => h⟩
def cutDs (ds : List D) (lo hi : Option Int) : List D := (ds.drop (HT.sIx ds.length 0 lo)).take (HT.sIx ds.length ds.length hi - HT.sIx ds.length 0 lo)
theorem DnAll.cut {S : Addr → Prop} {H : Hp} {xs : List V} {ds : List D} {lo hi : Option Int} (h : DnAll X.prog X.w X.K S H xs ds) : DnAll X.prog X.w X.K S H (cutV xs lo hi) (cutDs ds lo hi) := by
  unfold cutV cutDs
  rw [h.length]
  exact (h.drop _).take _
def slT : D → Option Int → Option Int → Option D := fun d lo hi => match d with
  | .tuple ds => some (.tuple (cutDs ds lo hi))
  | _ => none
def slL : D → Option Int → Option Int → Option D := fun d lo hi => match d with
  | .list ds => some (.list (cutDs ds lo hi))
  | _ => none
def slM (f : D → Option Int → Option Int → Option D) (a : M D) (l h : M (Option Int)) : M D := M.bind a fun d => M.bind l fun lo => M.bind h fun hi => M.lift (f d lo hi)
theorem e_slT {e : Expr} {lo hi : Option Expr} {p2 pos : Pos} {t s u v : Bool} {m : M D} {l h : M (Option Int)} (he : PE X e (TG X W XR v t m)) (hl : PO X lo (TOs X W XR s l)) (hh : PO X hi (TOs X W XR u h)) (hv : (v && (s || u)) = false) :
    PE X (.Subscript e (.Slice lo hi none p2) pos) (TG X W XR false (t || (s || u)) (slM slT m l h)) := PEi (pe_slice sl_tupA he hl hh) fun σ H Q ⟨F, ρ, R, z⟩ =>
  ⟨F, ρ, R, Out.sat_mono (sat2 z) (fun d ρ1 k x H1 R1 K1 D1 => ⟨F, ρ1, R1, Out.sat_mono (sat2 k) (fun lo ρ2 k2 H2 R2 K2 => ⟨F, ρ2, R2, Out.sat_mono (sat2 k2) (fun hi ρ3 k3 H3 R3 K3 => by
    obtain ⟨c, e1, k4⟩ := satl k3
    have D3 := Rg.kp hv (K2.trans K3) D1
    cases d with
    | tuple ds =>
      cases e1
      obtain ⟨dx, a, xs, rfl, h1, h2⟩ := tup_of (D3.bd : Bd X.prog X.w X.K _ _ _ _)
      have K := K1.trans (K2.trans K3)
      refine ⟨a, xs, rfl, h1, fun ⟨z1, z2⟩ => k4 _ H3 R3 K ?_, fun _ p hp => new_tup (ds := cutDs ds lo hi) R3 hp h2.cut fun v H' R' g D' => k4 v H' R' ((K.trans (Kp.grow (t := false) g)).up (by simp)) D'⟩
      have e : cutDs ds lo hi = ds := by
        unfold cutDs
        rw [← h2.length, z1, z2]
        simp [h2.length]
      show Dn _ _ _ _ _ _ (.tuple (cutDs ds lo hi))
      rw [e]
      exact dx
    | _ => cases e1) fun _ _ _ h => h⟩) fun _ _ _ h => h⟩) fun _ _ _ h => h⟩
theorem f_slL {e : Expr} {lo hi : Option Expr} {p2 pos : Pos} {t s u v : Bool} {m : M D} {l h : M (Option Int)} (he : PE X e (TG X W XR v t m)) (hl : PO X lo (TOs X W XR s l)) (hh : PO X hi (TOs X W XR u h)) (hv : (v && (s || u)) = false) :
    PE X (.Subscript e (.Slice lo hi none p2) pos) (TF X W XR (t || (s || u)) (slM slL m l h)) := PEi (pe_slice sl_list he hl hh) fun σ H Q ⟨F, ρ, R, z⟩ =>
  ⟨F, ρ, R, Out.sat_mono (sat2 z) (fun d ρ1 k x H1 R1 K1 D1 => ⟨F, ρ1, R1, Out.sat_mono (sat2 k) (fun lo ρ2 k2 H2 R2 K2 => ⟨F, ρ2, R2, Out.sat_mono (sat2 k2) (fun hi ρ3 k3 H3 R3 K3 => by
    obtain ⟨c, e1, k4⟩ := satl k3
    have D3 := Rg.kp hv (K2.trans K3) D1
    cases d with
    | list ds =>
      cases e1
      obtain ⟨a, xs, rfl, h1, h2⟩ := lst_of (D3.bd : Bd X.prog X.w X.K _ _ _ _)
      have K := K1.trans (K2.trans K3)
      exact ⟨a, xs, rfl, h1, fun p hp => new_lst (ds := cutDs ds lo hi) R3 hp h2.cut fun v H' R' g n D' => k4 v H' R' ((K.trans (Kp.grow (t := false) g)).up (by simp)) (K.none n) D'⟩
    | _ => cases e1) fun _ _ _ h => h⟩) fun _ _ _ h => h⟩) fun _ _ _ h => h⟩
end
end Rf
end
section
set_option linter.all false
set_option maxHeartbeats 2000000
namespace Rf
open PySem PySem.Spec PyProof.Rows L2
section
variable {prog : Program} {w : World} {A : Around} {E : Value → Shared → Prop} {s : Shared}
theorem rv_applied {sl : Addr} {vl vu : Value} {t : Tok} {n : Nat} {Q : Int × Int × Nat → Shared → Prop} (hs : s.heap.IsSliceOf sl .none .none (.int (-1) t)) (h : Q ((n : Int) - 1, -1, n) s) :
    wpAny (model prog w) A (Builtin.Slice.sliceApplied (.ref sl) (pure (n : Int))) Q E s := by
  obtain ⟨os, hos, hcs, hds⟩ := id hs
  unfold Builtin.Slice.sliceApplied Builtin.Slice.sliceFields
  refine wpAny_bind (wpAny_bind (wpAny_field hos hds (x := .none) rfl (wpAny_bind (wpAny_field hos hds (x := .none) rfl (wpAny_bind (wpAny_field hos hds (x := .int (-1) t) rfl (wpAny_pure ?_)))))))
  refine wpAny_bind (HT.slicePart_ (.int (-1) t) ?_)
  show wpAny _ _ (if ((-1 : Int) == 0) = true then _ else _) _ _ s
  rw [if_neg (by decide)]
  refine wpAny_bind (HT.slicePart_ .none (wpAny_bind (HT.slicePart_ .none (wpAny_bind (wpAny_pure ?_)))))
  have e : Builtin.Slice.slicePlaces ((n : Int) - 1) (-1) (-1) = n := by
    unfold Builtin.Slice.slicePlaces
    rw [if_neg (by decide)]
    split
    · have : ((n : Int) - 1 - -1 - 1) / - -1 + 1 = n := by
        have q : (- -1 : Int) = 1 := rfl
        rw [q, Int.ediv_one]; omega
      rw [this]; rfl
    · omega
  show wpAny _ _ (pure ((n : Int) - 1, (-1 : Int), Builtin.Slice.slicePlaces ((n : Int) - 1) (-1) (-1))) _ _ s
  rw [e]
  exact wpAny_pure h
theorem rv_pick (xs : Array Value) : ((List.range xs.size).filterMap fun (m : Nat) => xs[((xs.size : Int) - 1 + (m : Int) * -1).toNat]?).toArray = xs.toList.reverse.toArray := by
  congr 1
  apply List.ext_getElem?
  intro i
  have key : ∀ l : List Nat, (∀ m ∈ l, m < xs.size) → (l.filterMap fun (m : Nat) => xs[((xs.size : Int) - 1 + (m : Int) * -1).toNat]?) = l.map fun m => xs.getD (xs.size - 1 - m) default := by
    intro l
    induction l with
    | nil => intro _; rfl
    | cons a l ih =>
      intro h
      have ha := h a (by simp)
      have e : ((xs.size : Int) - 1 + (a : Int) * -1).toNat = xs.size - 1 - a := by omega
      rw [List.filterMap_cons, e]
      have e2 : xs[xs.size - 1 - a]? = some (xs.getD (xs.size - 1 - a) default) := by
        rw [Array.getD_eq_getD_getElem?]
        have : xs.size - 1 - a < xs.size := by omega
        simp [this]
      rw [e2]
      simp only [List.map_cons]
      rw [ih fun m hm => h m (by simp [hm])]
  rw [key _ (fun m hm => List.mem_range.mp hm), List.getElem?_map]
  by_cases hi : i < xs.size
  · rw [List.getElem?_range hi, List.getElem?_reverse (by simpa using hi)]
    simp only [Array.length_toList, Option.map_some, Array.getElem?_toList, Array.getD_eq_getD_getElem?]
    have : xs.size - 1 - i < xs.size := by omega
    simp [this]
  · rw [List.getElem?_eq_none (by simpa using hi), List.getElem?_eq_none (by simpa using hi)]
    rfl
theorem getItem_tuple_rv {t sl : Addr} {its : Array Value} {tk : Tok} {Q : Value → Shared → Prop} (ht : IsTup s.heap t its) (hs : s.heap.IsSliceOf sl .none .none (.int (-1) tk))
    (h : Q (.ref s.heap.objs.size) { s with heap := s.heap.push { cls := .type "tuple", data := .seq its.toList.reverse.toArray } }) (hsz : its.size ≤ sizeLine) : wpAny (model prog w) A (getItem (.ref t) (.ref sl)) Q E s := by
  have hz : sizeOk (.seq its.toList.reverse.toArray) := by
    show its.toList.reverse.toArray.size ≤ sizeLine
    simpa using hsz
  obtain ⟨os, hos, hcs, hds⟩ := id hs
  have hT : s.TypeIs (.ref sl) "slice" := ⟨os, hos, hcs⟩
  unfold getItem
  try with_reducible refine wpAny_holding ?_
  first | refine wpAny_bind (wpAny_pure ?_) | skip
  refine wpAny_bind (wpAny_sequenceKey ht.typeIs (by decide) ?_)
  refine wpAny_bind (wpAny_callSpecial?_slot (name := Str.ofString "__getitem__") ht.typeIs slot_tuple_getitem
    (wpAny_call_entry slot_tuple_getitem ht.typeIs entry_tuple_getitem ?_ (args_tuple_getitem _ _)))
  show wpAny _ _ (Builtin.Tuple.tupleItemsOf (.ref t) >>= _) _ _ s
  refine wpAny_bind (tupleItemsOf_ ht ?_)
  refine wpAny_bind (wpAny_typeOf hT ?_)
  rw [if_pos (by decide)]
  refine wpAny_bind (rv_applied (vl := .none) (vu := .none) hs ?_)
  have hno : ¬ ((((its.size : Int) - 1) == 0 && (-1 : Int) == 1 && its.size == its.size) = true) := by
    intro q
    rw [Bool.and_eq_true, Bool.and_eq_true] at q
    exact absurd q.1.2 (by decide)
  show wpAny _ _ (if (((its.size : Int) - 1) == 0 && (-1 : Int) == 1 && its.size == its.size) = true then _ else _) _ _ s
  rw [if_neg hno, rv_pick]
  first
    | exact wpAny_bind (m := Builtin.Tuple.tupleExact _) (wpAny_newObj_type (wpAny_pure ⟨_, rfl, wpAny_pure h⟩) hz)
    | exact wpAny_bind (wpAny_bind (m := Builtin.Tuple.tupleExact _) (wpAny_newObj_type (wpAny_pure ⟨_, rfl, wpAny_pure h⟩) hz))
end
end Rf
namespace Rf
open PySem PySem.Spec L2
section
variable {X : Cx} {W : WX} {XR : XRep}
/-! ### a[::-1] -/
def tRevA (K : PySem.W.Frag) (te : TE) : TE := fun σ H Q => te σ H fun x H1 => ∃ a xs, x = .ref a ∧ SqT K H1 a xs ∧ ∀ p, H1 p = none → Q (.ref p) (upd H1 p (.tup xs.reverse))
abbrev negOne (k : Nat) (p1 p2 : Pos) : Expr := .UnaryOp .USub (.Constant (.int 1) k p1) p2
theorem pe_rvA {e : Expr} {te : TE} {k : Nat} {p1 p2 p3 pos : Pos} (he : PE X e te) : PE X (.Subscript e (.Slice none none (some (negOne k p1 p2)) p3) pos) (fun σ H Q => tRevL X.K te σ H Q ∨ tRevA X.K te σ H Q) := by
  refine ⟨fun pins s σ H Q I h => ?_⟩
  rcases h with h | h
  · exact (pe_revL he).run pins s σ H Q I h
  refine PyProof.Rows.Subscript_ (thn (he.run pins s σ H _ I h) fun v s1 ⟨x, H1, I1, r1, a, xs, ex, hx, q⟩ => ?_)
  subst ex
  cases r1
  have hst : PO X (some (negOne k p1 p2)) (tPart (tUn (rU fun i => .int (-i)) (tC (.int 1)))) := po_some (pe_un un_neg pe_int)
  refine wpAny_Slice ?_
  rw [evalPart_none]
  refine wpAny_pure (wpAny_pure ?_)
  refine thn (hst.run pins s1 σ H1 (fun o H4 => o = some (-1) ∧ H4 = H1) I1 ⟨1, rfl, -1, rfl, rfl, rfl⟩) fun vs s4 ⟨o, H4, I4, ps, eo, e4⟩ => ?_
  subst eo e4
  cases ps with
  | int _ tk =>
    have I5 : Inv X pins σ H4 { s4 with heap := s4.heap.push { cls := .type "slice", data := .fields #[.none, .none, .int (-1) tk] } } := I4.kept (t' := s4.toks) fun b ob q => Heap.get?_push_of_some _ q
    obtain ⟨its, r, ht, hz⟩ := I5.tuple hx
    have hl := r.length
    refine PyProof.Rows.tail_any (ops := [.ref a, .ref s4.heap.objs.size]) ht.typeIs (PyProof.Rows.slot_tuple_getitem.lookup) ?_ (by with_unfolding_all rfl)
    refine getItem_tuple_rv ht (Heap.IsSliceOf.new _ .none .none (.int (-1) tk)) ?_ (by rw [List.size_toArray]; omega)
    refine ⟨.ref _, _, I5.laid (t' := s4.toks) (o := .tup xs.reverse) (fun b ob q => Heap.get?_push_of_some _ q) (Nat.le_refl _) ?_, rfl, q _ (I5.hok.fresh (Nat.le_refl _))⟩
    exact ⟨by rw [List.length_reverse]; exact hz, its.reverse, r.reverse, PyProof.Rows.IsTup.new _ _⟩
def rvD : D → Option D
  | .list ds => some (.list ds.reverse)
  | .tuple ds => some (.tuple ds.reverse)
  | _ => none
def un1 (f : D → Option D) (a : M D) : M D := M.bind a fun d => M.lift (f d)
theorem f_rv {e : Expr} {k : Nat} {p1 p2 p3 pos : Pos} {u t : Bool} {m : M D} (he : PE X e (TG X W XR u t m)) : PE X (.Subscript e (.Slice none none (some (negOne k p1 p2)) p3) pos) (TF X W XR t (un1 (fun d => match d with | .list ds => some (.list ds.reverse) | _ => none) m)) :=
  PEi (pe_rvA he) fun σ H Q ⟨F, ρ, R, z⟩ => .inl ⟨F, ρ, R, Out.sat_mono (sat2 z) (fun d ρ1 k x H1 R1 K1 D1 => by
    obtain ⟨c, e1, k⟩ := satl k
    cases d with
    | list ds =>
      cases e1
      obtain ⟨a, xs, rfl, h1, h2⟩ := lst_of (D1.bd : Bd X.prog X.w X.K _ _ _ _)
      exact ⟨a, xs, rfl, h1, fun p hp => new_lst R1 hp h2.rev fun v H' R' g n D' => k v H' R' ((K1.trans (Kp.grow (t := false) g)).up (by simp)) (K1.none n) D'⟩
    | _ => cases e1) fun _ _ _ h => h⟩
/-- two readings, one a value's: by what it is -/
theorem sat_or {α : Type} {o : Out α} {k : α → Env → Prop} {e : Nat → List D → Env → Prop} (h : o.sat k e) : o.sat (fun a ρ => k a ρ ∧ o = .ok a ρ) e := by
  cases o with
  | ok a ρ => exact ⟨h, rfl⟩
  | ex c ds ρ => exact h
  | bad => exact h
theorem e_rv {e : Expr} {k : Nat} {p1 p2 p3 pos : Pos} {u t : Bool} {m : M D} (he : PE X e (TG X W XR u t m)) : PE X (.Subscript e (.Slice none none (some (negOne k p1 p2)) p3) pos) (TG X W XR false t (un1 rvD m)) :=
  PEi (pe_rvA he) fun σ H Q ⟨F, ρ, R, z⟩ => by
    have z2 := sat2 z
    cases eo : m ρ with
    | bad => rw [eo] at z2; exact z2.elim
    | ex c ds ρ1 => rw [eo] at z2; exact .inl ⟨F, ρ, R, by rw [eo]; exact z2⟩
    | ok d ρ1 =>
      rw [eo] at z2
      obtain ⟨c, e1, k⟩ := satl z2
      cases d with
      | list ds =>
        cases e1
        refine .inl ⟨F, ρ, R, ?_⟩
        rw [eo]
        intro x H1 R1 K1 D1
        obtain ⟨a, xs, rfl, h1, h2⟩ := lst_of (D1.bd : Bd X.prog X.w X.K _ _ _ _)
        exact ⟨a, xs, rfl, h1, fun p hp => new_lst R1 hp h2.rev fun v H' R' g n D' => k (.ref v) H' (R'.but fun _ => R1.fresh v n) ((K1.trans (Kp.grow (t := false) g)).up (by simp)) (D'.dn (S := Al (F.but v) ρ1 σ) (R1.new n) Fr.but_le)⟩
      | tuple ds =>
        cases e1
        refine .inr ⟨F, ρ, R, ?_⟩
        rw [eo]
        intro x H1 R1 K1 D1
        obtain ⟨_, a, xs, rfl, h1, h2⟩ := tup_of (D1.bd : Bd X.prog X.w X.K _ _ _ _)
        exact ⟨a, xs, rfl, h1, fun p hp => new_tup R1 hp h2.rev fun v H' R' g D' => k v H' R' ((K1.trans (Kp.grow (t := false) g)).up (by simp)) D'⟩
      | _ => cases e1

/-! ### a[lo:hi] of either kind -/
def slD : D → Option Int → Option Int → Option D := fun d lo hi => match d with
  | .tuple ds => some (.tuple (cutDs ds lo hi))
  | .list ds => some (.list (cutDs ds lo hi))
  | _ => none
theorem e_sl {e : Expr} {lo hi : Option Expr} {p2 pos : Pos} {t s u v : Bool} {m : M D} {l h : M (Option Int)} (he : PE X e (TG X W XR v t m)) (hl : PO X lo (TOs X W XR s l)) (hh : PO X hi (TOs X W XR u h)) (hv : (v && (s || u)) = false) :
    PE X (.Subscript e (.Slice lo hi none p2) pos) (TG X W XR false (t || (s || u)) (slM slD m l h)) := PEi (pe_slice (sl_tupA.or sl_list) he hl hh) fun σ H Q ⟨F, ρ, R, z⟩ =>
  ⟨F, ρ, R, Out.sat_mono (sat2 z) (fun d ρ1 k x H1 R1 K1 D1 => ⟨F, ρ1, R1, Out.sat_mono (sat2 k) (fun lo ρ2 k2 H2 R2 K2 => ⟨F, ρ2, R2, Out.sat_mono (sat2 k2) (fun hi ρ3 k3 H3 R3 K3 => by
    obtain ⟨c, e1, k4⟩ := satl k3
    have D3 := Rg.kp hv (K2.trans K3) D1
    have K := K1.trans (K2.trans K3)
    cases d with
    | tuple ds =>
      cases e1
      obtain ⟨dx, a, xs, rfl, h1, h2⟩ := tup_of (D3.bd : Bd X.prog X.w X.K _ _ _ _)
      refine .inl ⟨a, xs, rfl, h1, fun ⟨z1, z2⟩ => k4 _ H3 R3 K ?_, fun _ p hp => new_tup (ds := cutDs ds lo hi) R3 hp h2.cut fun v H' R' g D' => k4 v H' R' ((K.trans (Kp.grow (t := false) g)).up (by simp)) D'⟩
      have e : cutDs ds lo hi = ds := by
        unfold cutDs
        rw [← h2.length, z1, z2]
        simp [h2.length]
      show Dn _ _ _ _ _ _ (.tuple (cutDs ds lo hi))
      rw [e]
      exact dx
    | list ds =>
      cases e1
      obtain ⟨a, xs, rfl, h1, h2⟩ := lst_of (D3.bd : Bd X.prog X.w X.K _ _ _ _)
      exact .inr ⟨a, xs, rfl, h1, fun p hp => new_lst (ds := cutDs ds lo hi) R3 hp h2.cut fun v H' R' g n D' => k4 (.ref v) H' (R'.but fun _ => R3.fresh v n) ((K.trans (Kp.grow (t := false) g)).up (by simp)) (D'.dn (S := Al (F.but v) ρ3 σ) (R3.new n) Fr.but_le)⟩
    | _ => cases e1) fun _ _ _ h => h⟩) fun _ _ _ h => h⟩) fun _ _ _ h => h⟩

/-! ### built-in functions of one argument -/
def Ser1 (X : Cx) (r : List V → Hp → VK → Prop) (f : D → Option D) : Prop := ∀ (F : Fr) (ρ : Env) (σ : Sg) (H : Hp) (x : V) (d z : D) (Q : VK), Rel X.prog X.w X.K F ρ σ H → Bd X.prog X.w X.K (Al F ρ σ) H x d → f d = some z →
  (∀ v H', Rel X.prog X.w X.K F ρ σ H' → (∀ b o, H b = some o → H' b = some o) → Dn X.prog X.w X.K (Al F ρ σ) H' v z → Q v H') → r [x] H Q
def Ser1F (X : Cx) (r : List V → Hp → VK → Prop) (f : D → Option D) : Prop := ∀ (F : Fr) (ρ : Env) (σ : Sg) (H : Hp) (x : V) (d z : D) (Q : VK), Rel X.prog X.w X.K F ρ σ H → Bd X.prog X.w X.K (Al F ρ σ) H x d → f d = some z →
  (∀ a H', Rel X.prog X.w X.K (F.but a) ρ σ H' → (∀ b o, H b = some o → H' b = some o) → H a = none → Ob X.prog X.w X.K (Al (F.but a) ρ σ) H' a z → Q (.ref a) H') → r [x] H Q
theorem t_call1 {r : List V → Hp → VK → Prop} {f : D → Option D} {u t : Bool} {m : M D} (hr : Ser1 X r f) : ∀ σ H Q, TG X W XR false t (un1 f m) σ H Q → tCB r (tCons (TG X W XR u t m) tNil) σ H Q := fun σ H Q ⟨F, ρ, R, z⟩ =>
  ⟨F, ρ, R, Out.sat_mono (sat2 z) (fun d ρ1 k x H1 R1 K1 D1 => by
    obtain ⟨c, e1, k⟩ := satl k
    exact hr F ρ1 σ H1 x d c Q R1 D1.bd e1 fun v H' R' g D' => k v H' R' ((K1.trans (Kp.grow (t := false) g)).up (by simp)) D') fun _ _ _ h => h⟩
theorem t_call1F {r : List V → Hp → VK → Prop} {f : D → Option D} {u t : Bool} {m : M D} (hr : Ser1F X r f) : ∀ σ H Q, TF X W XR t (un1 f m) σ H Q → tCB r (tCons (TG X W XR u t m) tNil) σ H Q := fun σ H Q ⟨F, ρ, R, z⟩ =>
  ⟨F, ρ, R, Out.sat_mono (sat2 z) (fun d ρ1 k x H1 R1 K1 D1 => by
    obtain ⟨c, e1, k⟩ := satl k
    exact hr F ρ1 σ H1 x d c Q R1 D1.bd e1 fun v H' R' g n D' => k v H' R' ((K1.trans (Kp.grow (t := false) g)).up (by simp)) (K1.none n) D') fun _ _ _ h => h⟩
/-- a name of a built-in that the module has not taken -/
structure Bn (X : Cx) (x : Str) (v : Value) : Prop where
  gl : Gl X x
  mg : X.mg x = none
  bt : bootBuiltins x = some v
  nn : x ≠ "__name__"
  nd : (x == ("__debug__" : Str)) = false
/-- it is no star -/
def noStar : Expr → Bool
  | .Starred _ _ => false
  | _ => true
theorem star1 {e : Expr} {es : List Expr} {env : PySem.Env} (h : noStar e = true) : starEach (e :: es) env = (false, eval e env) :: starEach es env := by
  cases e <;> first | rfl | cases h
theorem e_callB {id : String} {x : Str} {p pos : Pos} {e : Expr} {r : List V → Hp → VK → Prop} {f : D → Option D} {u t : Bool} {m : M D} (b : Bn X x (.builtin id)) (hc : CallR X (.builtin id) r) (hr : Ser1 X r f) (hs : noStar e = true) (he : PE X e (TG X W XR u t m)) :
    PE X (.Call (.Name x p) [e] [] pos) (TG X W XR false t (un1 f m)) := PEi (pe_callB hc b.gl b.mg b.bt (pa_cons he pa_nil (star1 hs)) b.nn b.nd (star1 hs) rfl) (t_call1 hr)
theorem e_callT {T : String} {x : Str} {p pos : Pos} {e : Expr} {r : List V → Hp → VK → Prop} {f : D → Option D} {u t : Bool} {m : M D} (b : Bn X x (.type T)) (hc : CallR X (.type T) r) (hr : Ser1 X r f) (hs : noStar e = true) (he : PE X e (TG X W XR u t m)) :
    PE X (.Call (.Name x p) [e] [] pos) (TG X W XR false t (un1 f m)) := PEi (pe_callTy hc b.gl b.mg b.bt (pa_cons he pa_nil (star1 hs)) b.nn b.nd (star1 hs)) (t_call1 hr)
theorem f_callB {id : String} {x : Str} {p pos : Pos} {e : Expr} {r : List V → Hp → VK → Prop} {f : D → Option D} {u t : Bool} {m : M D} (b : Bn X x (.builtin id)) (hc : CallR X (.builtin id) r) (hr : Ser1F X r f) (hs : noStar e = true) (he : PE X e (TG X W XR u t m)) :
    PE X (.Call (.Name x p) [e] [] pos) (TF X W XR t (un1 f m)) := PEi (pe_callB hc b.gl b.mg b.bt (pa_cons he pa_nil (star1 hs)) b.nn b.nd (star1 hs) rfl) (t_call1F hr)
theorem f_callT {T : String} {x : Str} {p pos : Pos} {e : Expr} {r : List V → Hp → VK → Prop} {f : D → Option D} {u t : Bool} {m : M D} (b : Bn X x (.type T)) (hc : CallR X (.type T) r) (hr : Ser1F X r f) (hs : noStar e = true) (he : PE X e (TG X W XR u t m)) :
    PE X (.Call (.Name x p) [e] [] pos) (TF X W XR t (un1 f m)) := PEi (pe_callTy hc b.gl b.mg b.bt (pa_cons he pa_nil (star1 hs)) b.nn b.nd (star1 hs)) (t_call1F hr)

def lenD : D → Option D
  | .list ds => some (.int ds.length)
  | .tuple ds => some (.int ds.length)
  | .str x => if szOk x.length then some (.int x.length) else none
  | _ => none
theorem ser_len : Ser1 X (fun xs H Q => ∃ x n, xs = [x] ∧ LenV X.K x H n ∧ Q (.int n) H) lenD := fun F ρ σ H x d z Q R bx e k => by
  cases d with
  | list ds =>
    cases e
    obtain ⟨a, xs, rfl, h1, h2⟩ := lst_of bx
    exact ⟨_, ds.length, rfl, .inl ⟨xs, h1, h2.length.symm⟩, k _ H R (fun _ _ q => q) (.int _)⟩
  | tuple ds =>
    cases e
    obtain ⟨_, a, xs, rfl, h1, h2⟩ := tup_of bx
    exact ⟨_, ds.length, rfl, .inr ⟨xs, h1, h2.length.symm⟩, k _ H R (fun _ _ q => q) (.int _)⟩
  | str s =>
    unfold lenD at e
    simp only at e
    split at e
    · rename_i hz
      cases e
      rw [str_of bx]
      exact ⟨_, s.length, rfl, ⟨szOk_le hz, rfl⟩, k _ H R (fun _ _ q => q) (.int _)⟩
    · cases e
  | _ => cases e
def absD : D → Option D
  | .int i => some (.int (if i < 0 then -i else i))
  | _ => none
theorem ser_abs : Ser1 X (fun xs H Q => ∃ i, xs = [.int i] ∧ Q (.int (if i < 0 then -i else i)) H) absD := fun F ρ σ H x d z Q R bx e k => by
  cases d with
  | int i => cases e; rw [int_of bx]; exact ⟨i, rfl, k _ H R (fun _ _ q => q) (.int _)⟩
  | _ => cases e
def intD : D → Option D
  | .int i => some (.int i)
  | .bool b => some (.int (if b then 1 else 0))
  | _ => none
theorem ser_int : Ser1 X (fun xs H Q => (∃ i, xs = [.int i] ∧ Q (.int i) H) ∨ ∃ k, xs = [.bl k] ∧ Q (.int (if k then 1 else 0)) H) intD := fun F ρ σ H x d z Q R bx e k => by
  cases d with
  | int i => cases e; rw [int_of bx]; exact .inl ⟨i, rfl, k _ H R (fun _ _ q => q) (.int _)⟩
  | bool b => cases e; rw [bl_of (b := b) bx rfl]; exact .inr ⟨b, rfl, k _ H R (fun _ _ q => q) (.int _)⟩
  | _ => cases e
def tupD : D → Option D
  | .list ds => some (.tuple ds)
  | .tuple ds => some (.tuple ds)
  | _ => none
theorem ser_tup : Ser1 X (fun xs H Q => ∃ p ys, xs = [.ref p] ∧ ((SqL X.K H p ys ∧ ∀ l, H l = none → Q (.ref l) (upd H l (.tup ys))) ∨ (SqT X.K H p ys ∧ Q (.ref p) H))) tupD := fun F ρ σ H x d z Q R bx e k => by
  cases d with
  | list ds =>
    cases e
    obtain ⟨a, xs, rfl, h1, h2⟩ := lst_of bx
    exact ⟨a, xs, rfl, .inl ⟨h1, fun p hp => new_tup R hp h2 k⟩⟩
  | tuple ds =>
    cases e
    obtain ⟨dx, a, xs, rfl, h1, h2⟩ := tup_of bx
    exact ⟨a, xs, rfl, .inr ⟨h1, k _ H R (fun _ _ q => q) dx⟩⟩
  | _ => cases e
def listD (d : D) : Option D := (itemsD d).map .list
theorem serF_list : Ser1F X (fun xs H Q => ∃ p ys, xs = [.ref p] ∧ (SqL X.K H p ys ∨ SqT X.K H p ys) ∧ ∀ l, H l = none → Q (.ref l) (upd H l (.lst ys))) listD := fun F ρ σ H x d z Q R bx e k => by
  unfold listD at e
  obtain ⟨ds, e1, rfl⟩ := Option.map_eq_some_iff.mp e
  obtain ⟨a, xs, rfl, h1, h2⟩ := sq_of bx e1
  exact ⟨a, xs, rfl, h1.symm, fun p hp => new_lst R hp h2 k⟩
/-- bools -/
def blsD : List D → Option (List Bool)
  | [] => some []
  | .bool b :: r => (blsD r).map (b :: ·)
  | _ :: _ => none
theorem bls_of {S : Addr → Prop} {H : Hp} : ∀ {xs : List V} {ds : List D} {bs : List Bool}, DnAll X.prog X.w X.K S H xs ds → blsD ds = some bs → xs = bs.map V.bl
  | _, _, _, .nil, e => by cases e; rfl
  | _, _, _, .cons (d := .bool b) h r, e => by
    obtain ⟨cs, e1, rfl⟩ := Option.map_eq_some_iff.mp (show (blsD _).map (b :: ·) = some _ from e)
    cases h
    rw [bls_of r e1]
    rfl
  | _, _, _, .cons (d := .none) h r, e => by cases e
  | _, _, _, .cons (d := .int _) h r, e => by cases e
  | _, _, _, .cons (d := .str _) h r, e => by cases e
  | _, _, _, .cons (d := .list _) h r, e => by cases e
  | _, _, _, .cons (d := .tuple _) h r, e => by cases e
  | _, _, _, .cons (d := .dict _) h r, e => by cases e
def allD : D → Option D
  | .list ds => (blsD ds).map fun bs => .bool (bs.all id)
  | _ => none
def anyD : D → Option D
  | .list ds => (blsD ds).map fun bs => .bool (bs.any id)
  | _ => none
theorem ser_all : Ser1 X (rAll X.K) allD := fun F ρ σ H x d z Q R bx e k => by
  cases d with
  | list ds =>
    obtain ⟨bs, e1, rfl⟩ := Option.map_eq_some_iff.mp (show (blsD ds).map (fun bs => (PyData.bool (bs.all id))) = some z from e)
    obtain ⟨a, xs, rfl, h1, h2⟩ := lst_of bx
    rw [bls_of h2 e1] at h1
    exact ⟨a, bs, rfl, h1, k _ H R (fun _ _ q => q) (.bl _)⟩
  | _ => cases e
theorem ser_any : Ser1 X (rAny X.K) anyD := fun F ρ σ H x d z Q R bx e k => by
  cases d with
  | list ds =>
    obtain ⟨bs, e1, rfl⟩ := Option.map_eq_some_iff.mp (show (blsD ds).map (fun bs => (PyData.bool (bs.any id))) = some z from e)
    obtain ⟨a, xs, rfl, h1, h2⟩ := lst_of bx
    rw [bls_of h2 e1] at h1
    exact ⟨a, bs, rfl, h1, k _ H R (fun _ _ q => q) (.bl _)⟩
  | _ => cases e
/-- ints -/
def intsD : List D → Option (List Int)
  | [] => some []
  | .int b :: r => (intsD r).map (b :: ·)
  | _ :: _ => none
theorem ints_of {S : Addr → Prop} {H : Hp} : ∀ {xs : List V} {ds : List D} {bs : List Int}, DnAll X.prog X.w X.K S H xs ds → intsD ds = some bs → xs = bs.map V.int
  | _, _, _, .nil, e => by cases e; rfl
  | _, _, _, .cons (d := .int b) h r, e => by
    obtain ⟨cs, e1, rfl⟩ := Option.map_eq_some_iff.mp (show (intsD _).map (b :: ·) = some _ from e)
    cases h
    rw [ints_of r e1]
    rfl
  | _, _, _, .cons (d := .none) h r, e => by cases e
  | _, _, _, .cons (d := .bool _) h r, e => by cases e
  | _, _, _, .cons (d := .str _) h r, e => by cases e
  | _, _, _, .cons (d := .list _) h r, e => by cases e
  | _, _, _, .cons (d := .tuple _) h r, e => by cases e
  | _, _, _, .cons (d := .dict _) h r, e => by cases e
def sumD : D → Option D
  | .list ds => (intsD ds).map fun bs => .int bs.sum
  | _ => none
theorem ser_sum : Ser1 X (rSum X.K) sumD := fun F ρ σ H x d z Q R bx e k => by
  cases d with
  | list ds =>
    obtain ⟨bs, e1, rfl⟩ := Option.map_eq_some_iff.mp (show (intsD ds).map (fun bs => (PyData.int bs.sum)) = some z from e)
    obtain ⟨a, xs, rfl, h1, h2⟩ := lst_of bx
    rw [ints_of h2 e1] at h1
    exact ⟨a, bs, rfl, h1, k _ H R (fun _ _ q => q) (.int _)⟩
  | _ => cases e
def maxI : List Int → Int
  | [] => 0
  | a :: r => r.foldl max a
def minI : List Int → Int
  | [] => 0
  | a :: r => r.foldl min a
theorem foldl_max_le : ∀ (r : List Int) (a : Int), a ≤ r.foldl max a ∧ ∀ y ∈ r, y ≤ r.foldl max a
  | [], a => ⟨Int.le_refl _, fun y h => by cases h⟩
  | b :: r, a => by
    obtain ⟨h1, h2⟩ := foldl_max_le r (max a b)
    refine ⟨Int.le_trans (Int.le_max_left _ _) h1, fun y h => ?_⟩
    rcases List.mem_cons.mp h with rfl | h
    · exact Int.le_trans (Int.le_max_right _ _) h1
    · exact h2 y h
theorem foldl_max_mem : ∀ (r : List Int) (a : Int), r.foldl max a = a ∨ r.foldl max a ∈ r
  | [], a => .inl rfl
  | b :: r, a => by
    rcases foldl_max_mem r (max a b) with h | h
    · by_cases q : a ≤ b
      · rw [Int.max_eq_right q] at h
        exact .inr (by show List.foldl max (max a b) r ∈ _; rw [Int.max_eq_right q, h]; simp)
      · rw [Int.max_eq_left (by omega)] at h
        exact .inl (by show List.foldl max (max a b) r = _; rw [Int.max_eq_left (by omega), h])
    · exact .inr (List.mem_cons_of_mem _ h)
theorem foldl_min_le : ∀ (r : List Int) (a : Int), r.foldl min a ≤ a ∧ ∀ y ∈ r, r.foldl min a ≤ y
  | [], a => ⟨Int.le_refl _, fun y h => by cases h⟩
  | b :: r, a => by
    obtain ⟨h1, h2⟩ := foldl_min_le r (min a b)
    refine ⟨Int.le_trans h1 (Int.min_le_left _ _), fun y h => ?_⟩
    rcases List.mem_cons.mp h with rfl | h
    · exact Int.le_trans h1 (Int.min_le_right _ _)
    · exact h2 y h
theorem foldl_min_mem : ∀ (r : List Int) (a : Int), r.foldl min a = a ∨ r.foldl min a ∈ r
  | [], a => .inl rfl
  | b :: r, a => by
    rcases foldl_min_mem r (min a b) with h | h
    · by_cases q : a ≤ b
      · rw [Int.min_eq_left q] at h
        exact .inl (by show List.foldl min (min a b) r = _; rw [Int.min_eq_left q, h])
      · rw [Int.min_eq_right (by omega)] at h
        exact .inr (by show List.foldl min (min a b) r ∈ _; rw [Int.min_eq_right (by omega), h]; simp)
    · exact .inr (List.mem_cons_of_mem _ h)
theorem max_eq {ns : List Int} {m : Int} (h1 : m ∈ ns) (h2 : ∀ y ∈ ns, y ≤ m) : m = maxI ns := by
  cases ns with
  | nil => cases h1
  | cons a r =>
    obtain ⟨k1, k2⟩ := foldl_max_le r a
    have b1 : m ≤ r.foldl max a := by
      rcases List.mem_cons.mp h1 with rfl | h
      · exact k1
      · exact k2 m h
    have b2 : r.foldl max a ≤ m := by
      rcases foldl_max_mem r a with h | h
      · rw [h]; exact h2 a (by simp)
      · exact h2 _ (List.mem_cons_of_mem _ h)
    exact Int.le_antisymm b1 b2
theorem min_eq {ns : List Int} {m : Int} (h1 : m ∈ ns) (h2 : ∀ y ∈ ns, m ≤ y) : m = minI ns := by
  cases ns with
  | nil => cases h1
  | cons a r =>
    obtain ⟨k1, k2⟩ := foldl_min_le r a
    have b1 : r.foldl min a ≤ m := by
      rcases List.mem_cons.mp h1 with rfl | h
      · exact k1
      · exact k2 m h
    have b2 : m ≤ r.foldl min a := by
      rcases foldl_min_mem r a with h | h
      · rw [h]; exact h2 a (by simp)
      · exact h2 _ (List.mem_cons_of_mem _ h)
    exact Int.le_antisymm b2 b1
def maxD : D → Option D
  | .list ds => (intsD ds).bind fun bs => if bs.isEmpty then none else some (.int (maxI bs))
  | _ => none
def minD : D → Option D
  | .list ds => (intsD ds).bind fun bs => if bs.isEmpty then none else some (.int (minI bs))
  | _ => none
theorem ser_max : Ser1 X (rMax X.K) maxD := fun F ρ σ H x d z Q R bx e k => by
  cases d with
  | list ds =>
    obtain ⟨bs, e1, e2⟩ := Option.bind_eq_some_iff.mp (show (intsD ds).bind (fun bs => if bs.isEmpty then none else some (PyData.int (maxI bs))) = some z from e)
    obtain ⟨a, xs, rfl, h1, h2⟩ := lst_of bx
    rw [ints_of h2 e1] at h1
    split at e2
    · cases e2
    · rename_i hn
      cases e2
      refine ⟨a, bs, rfl, h1, by cases bs with | nil => exact absurd rfl hn | cons _ _ => exact Nat.succ_pos _, fun m q1 q2 => ?_⟩
      rw [max_eq q1 q2]
      exact k _ H R (fun _ _ q => q) (.int _)
  | _ => cases e
theorem ser_min : Ser1 X (rMin X.K) minD := fun F ρ σ H x d z Q R bx e k => by
  cases d with
  | list ds =>
    obtain ⟨bs, e1, e2⟩ := Option.bind_eq_some_iff.mp (show (intsD ds).bind (fun bs => if bs.isEmpty then none else some (PyData.int (minI bs))) = some z from e)
    obtain ⟨a, xs, rfl, h1, h2⟩ := lst_of bx
    rw [ints_of h2 e1] at h1
    split at e2
    · cases e2
    · rename_i hn
      cases e2
      refine ⟨a, bs, rfl, h1, by cases bs with | nil => exact absurd rfl hn | cons _ _ => exact Nat.succ_pos _, fun m q1 q2 => ?_⟩
      rw [min_eq q1 q2]
      exact k _ H R (fun _ _ q => q) (.int _)
  | _ => cases e

/-! ### sorted -/
def isTupC : D → Bool
  | .tuple (_ :: _) => true
  | _ => false
def isTup : D → Bool
  | .tuple _ => true
  | _ => false
def srtOk (ds : List D) : Bool := szOk ds.length && ds.all (fun a => ds.all fun b => PySem.W.alike a b) && (ds.all isTupC || ds.all fun a => !isNone a && !isTup a) && ds.all fun a => SeqAt.shaped a
def srt (ds : List D) : List D := ds.mergeSort (PySem.W.dataLe false id)
def srtD : D → Option D
  | .list ds => if srtOk ds then some (.list (srt ds)) else none
  | _ => none
def rSrt (K : PySem.W.Frag) (Rx : V → D → Prop) : List V → Hp → VK → Prop := fun vs H Q => ∃ a xs ds, vs = [V.ref a] ∧ SqL K H a xs ∧ (∀ x d, Rx x d → Dp K H x d) ∧ Paired Rx xs ds ∧ srtOk ds = true ∧
  ∀ ys p, Paired Rx ys (srt ds) → H p = none → Q (.ref p) (upd H p (.lst ys))
theorem srt_len (ds : List D) : (srt ds).length = ds.length := by unfold srt; exact List.length_mergeSort _
theorem paired_each {α β : Type} {R : α → β → Prop} : ∀ {xs : List α} {ys : List β}, Paired R xs ys → PySem.W.EachIs R xs ys
  | _, _, .nil => .nil
  | _, _, .cons r t => .cons r (paired_each t)
theorem each_paired {α β : Type} {R : α → β → Prop} : ∀ {xs : List α} {ys : List β}, PySem.W.EachIs R xs ys → Paired R xs ys
  | _, _, .nil => .nil
  | _, _, .cons r t => .cons r (each_paired t)
theorem paired_join {R : V → D → Prop} : ∀ {us : List Value} {xs : List V} {ds : List D}, Vals xs us → Paired R xs ds → PySem.W.EachIs (fun u d => ∃ x, RelV x u ∧ R x d) us ds
  | _, _, _, .nil, .nil => .nil
  | _, _, _, .cons r t, .cons q s => .cons ⟨_, r, q⟩ (paired_join t s)
theorem paired_split {R : V → D → Prop} : ∀ {us : List Value} {ds : List D}, PySem.W.EachIs (fun u d => ∃ x, RelV x u ∧ R x d) us ds → ∃ xs, Vals xs us ∧ Paired R xs ds
  | _, _, .nil => ⟨[], .nil, .nil⟩
  | _, _, .cons ⟨x, r, q⟩ t => let ⟨xs, h1, h2⟩ := paired_split t; ⟨x :: xs, .cons r h1, .cons q h2⟩
theorem cr_srt {Rx : V → D → Prop} (hu : X.A.units + 80 < cLine) : CallR X (.builtin "sorted") (rSrt X.K Rx) := by
  intro pins s σ H vs us Q I r h
  obtain ⟨a, xs, ds, rfl, hs, hR, hp, ok, q⟩ := h
  obtain ⟨its, rv, hl, hz⟩ := I.list hs
  rw [Vals.ref1 r]
  unfold srtOk at ok
  simp only [Bool.and_eq_true, List.all_eq_true, Bool.or_eq_true] at ok
  obtain ⟨⟨⟨o1, o2⟩, o3⟩, o4⟩ := ok
  have e := paired_join rv hp
  have er : PySem.W.EachIs (fun v b => ∃ as, Reads s.heap v (id b) as) its ds := e.mono fun u d ⟨x, r1, r2⟩ => Dp.reads I d x u (hR x d r2) r1
  refine PySem.W.sorted_data (enc := id) hl.isList e er (fun d hd d' hd' => o2 d (by simpa using hd) d' (by simpa using hd')) ?_ (szOk_le o1) (fun b hb => ?_) fun out ho hout => ?_
  · rw [List.map_id]
    rcases o3 with o3 | o3
    · exact .inl fun d hd => by
        have := o3 d hd
        cases d with
        | tuple xs => cases xs with
          | nil => cases this
          | cons x r => exact ⟨x, r, rfl⟩
        | _ => cases this
    · refine .inr fun d hd => ?_
      obtain ⟨k1, k2⟩ := o3 d hd
      exact ⟨fun z => by (subst z; cases k1), fun ys z => by (subst z; cases k2)⟩
  · have := SeqAt.depth_of_shaped (o4 b hb)
    show X.A.units + 2 + b.depth < cLine
    omega
  · obtain ⟨ys, h1, h2⟩ := paired_split hout
    obtain ⟨ep, he'⟩ := PyProof.Rows.sortedAll_at s.heap its out.toArray
    have hlen : ys.length ≤ sizeLine := by rw [h1.length, ho]; exact szOk_le o1
    exact ⟨.ref _, upd H (s.heap.objs.size + 1) (.lst ys), I.laid (t' := s.toks) (fun _ _ => PyProof.Rows.sortedAll_old) (Nat.le_succ _) ⟨hlen, out, ep, h1, he'⟩, rfl, q ys _ h2 (I.hok.fresh (Nat.le_succ _))⟩
theorem cr_srtE (hu : X.A.units + 80 < cLine) : CallR X (.builtin "sorted") (fun vs H Q => ∃ Rx, rSrt X.K Rx vs H Q) := fun pins s σ H xs us Q I r ⟨Rx, h⟩ => cr_srt hu pins s σ H xs us Q I r h
theorem DnAll.paired {S : Addr → Prop} {H : Hp} : ∀ {xs : List V} {ds : List D}, DnAll X.prog X.w X.K S H xs ds → (∀ d ∈ ds, SeqAt.shaped d = true) → Paired (fun x d => Dn X.prog X.w X.K S H x d ∧ SeqAt.shaped d = true) xs ds
  | _, _, .nil, _ => .nil
  | _, _, .cons h r, k => .cons ⟨h, k _ (by simp)⟩ (DnAll.paired r fun d hd => k d (List.mem_cons_of_mem _ hd))
theorem DnAll.unpair {S : Addr → Prop} {H : Hp} : ∀ {xs : List V} {ds : List D}, Paired (fun x d => Dn X.prog X.w X.K S H x d ∧ SeqAt.shaped d = true) xs ds → DnAll X.prog X.w X.K S H xs ds
  | _, _, .nil => .nil
  | _, _, .cons h r => .cons h.1 (DnAll.unpair r)
theorem serF_srt : Ser1F X (fun vs H Q => ∃ Rx, rSrt X.K Rx vs H Q) srtD := fun F ρ σ H x d z Q R bx e k => by
  cases d with
  | list ds =>
    unfold srtD at e
    simp only at e
    split at e
    · rename_i ok
      cases e
      obtain ⟨a, xs, rfl, h1, h2⟩ := lst_of bx
      have ok2 := ok
      unfold srtOk at ok2
      simp only [Bool.and_eq_true, List.all_eq_true] at ok2
      exact ⟨_, a, xs, ds, rfl, h1, fun x d hd => Dn.dp (SeqAt.canLay_of_shaped hd.2) hd.1, h2.paired ok2.2, ok, fun ys p q hp => new_lst R hp (DnAll.unpair q) k⟩
    · cases e
  | _ => cases e

/-! ### isinstance -/
def tyD : D → String
  | .none => "NoneType"
  | .bool _ => "bool"
  | .int _ => "int"
  | .str _ => "str"
  | .list _ => "list"
  | .tuple _ => "tuple"
  | .dict _ => "dict"
def isD (T : String) (d : D) : Bool := tyD d == T || (T == "int" && tyD d == "bool")
def okTy (T : String) : Bool := T == "int" || T == "bool" || T == "str" || T == "list" || T == "tuple"
theorem kit_tab : (["int", "bool", "str", "list", "tuple"].all fun T => ["NoneType", "bool", "int", "str", "list", "tuple"].all fun y => kitB y T == some (y == T || (T == "int" && y == "bool"))) = true := by decide +kernel
theorem isD_kit {T : String} (h : okTy T = true) (d : D) (hd : ∀ x, d ≠ .dict x) : kitB (tyD d) T = some (isD T d) := by
  have hT : T ∈ ["int", "bool", "str", "list", "tuple"] := by
    unfold okTy at h
    simp only [Bool.or_eq_true, beq_iff_eq] at h
    rcases h with (((h | h) | h) | h) | h <;> subst h <;> simp
  have hy : tyD d ∈ ["NoneType", "bool", "int", "str", "list", "tuple"] := by
    cases d <;> first | (exact absurd rfl (hd _)) | simp [tyD]
  have := List.all_eq_true.mp (List.all_eq_true.mp kit_tab T hT) _ hy
  exact eq_of_beq this
theorem ty_of {S : Addr → Prop} {H : Hp} {v : V} {d : D} (h : Bd X.prog X.w X.K S H v d) (hd : ∀ x, d ≠ .dict x) : TyX X.K H v (.type (tyD d)) := by
  cases d with
  | none =>
    rcases h with h | ⟨a, rfl, h⟩
    · cases h; exact .base .non
    · exact h.elim
  | bool b => rw [bl_of (b := b) h rfl]; exact .base (.bl b)
  | int i => rw [int_of h]; exact .base (.int i)
  | str x => rw [str_of h]; exact .base (.str x)
  | list ds =>
    obtain ⟨a, xs, rfl, (h1 | ⟨o, h1⟩) | ⟨o, its, n, h1, h2, _⟩, _⟩ := lst_of h
    · exact .base (.lst h1)
    · exact .base (.frz h1)
    · exact .kList h1 h2
  | tuple ds =>
    obtain ⟨_, a, xs, rfl, (h1 | ⟨o, h1⟩) | ⟨o, its, n, h1, h2, _⟩, _⟩ := tup_of h
    · exact .base (.tup h1)
    · exact .fTuple h1
    · exact .kTuple h1 h2
  | dict x => exact absurd rfl (hd x)
def noDic : D → Bool
  | .dict _ => false
  | _ => true
def isM (T : String) (m : M D) : M D := un1 (fun d => if noDic d then some (.bool (isD T d)) else none) m
def is2M (T U : String) (m : M D) : M D := un1 (fun d => if noDic d then some (.bool (isD T d || isD U d)) else none) m
theorem noDic_ne {d : D} (h : noDic d = true) : ∀ x, d ≠ .dict x := fun x e => by subst e; cases h
theorem e_isi {x y : Str} {p q pos : Pos} {T : String} {e : Expr} {u t : Bool} {m : M D} (b : Bn X x (.builtin "isinstance")) (bt : Bn X y (.type T)) (ok : okTy T = true) (hs : noStar e = true) (he : PE X e (TG X W XR u t m)) :
    PE X (.Call (.Name x p) [e, .Name y q] [] pos) (TG X W XR false t (isM T m)) :=
  PEi (pe_callB call_isi b.gl b.mg b.bt (pa_cons he (pa_cons (pe_bltn bt.gl bt.mg bt.bt (v := .ty T) rfl bt.nn bt.nd) pa_nil (star1 rfl)) (star1 hs)) b.nn b.nd (star1 hs) rfl) fun σ H Q ⟨F, ρ, R, z⟩ =>
  ⟨F, ρ, R, Out.sat_mono (sat2 z) (fun d ρ1 k v H1 R1 K1 D1 => by
    obtain ⟨c, e1, k⟩ := satl k
    dsimp only at e1
    split at e1
    · rename_i hn
      cases e1
      exact ⟨v, .ty T, .type (tyD d), .type T, isD T d, rfl, .ty T, ty_of D1.bd (noDic_ne hn), kit_ty (isD_kit ok d (noDic_ne hn)), k _ H1 R1 K1 (.bl _)⟩
    · cases e1) fun _ _ _ h => h⟩
theorem e_isi2 {x y z : Str} {p q r pos tpos : Pos} {k1 : Nat} {T U : String} {e : Expr} {u t : Bool} {m : M D} (b : Bn X x (.builtin "isinstance")) (bt : Bn X y (.type T)) (bu : Bn X z (.type U)) (okT : okTy T = true) (okU : okTy U = true) (hs : noStar e = true) (he : PE X e (TG X W XR u t m)) :
    PE X (.Call (.Name x p) [e, .Tuple [.Name y q, .Name z r] k1 tpos] [] pos) (TG X W XR false t (is2M T U m)) :=
  PEi (pe_callB call_isiT b.gl b.mg b.bt (pa_cons he (pa_cons (pe_tup (pa_cons (pe_bltn bt.gl bt.mg bt.bt (v := .ty T) rfl bt.nn bt.nd) (pa_cons (pe_bltn bu.gl bu.mg bu.bt (v := .ty U) rfl bu.nn bu.nd) pa_nil (star1 rfl)) (star1 rfl))) pa_nil (star1 rfl)) (star1 hs)) b.nn b.nd (star1 hs) rfl) fun σ H Q ⟨F, ρ, R, z⟩ =>
  ⟨F, ρ, R, Out.sat_mono (sat2 z) (fun d ρ1 k v H1 R1 K1 D1 => by
    obtain ⟨c, e1, k⟩ := satl k
    dsimp only at e1
    split at e1
    · rename_i hn
      cases e1
      refine ⟨by show 2 ≤ sizeLine; decide, fun tp hp => ?_⟩
      have g := g_upd (o := .tup [.ty T, .ty U]) hp
      have D2 : Bd X.prog X.w X.K (Al F ρ1 σ) (upd H1 tp (.tup [.ty T, .ty U])) v d := Bd.kp (Kp.grow (t := false) g) (D1.bd : Bd X.prog X.w X.K _ _ _ _)
      refine ⟨v, tp, _, .type (tyD d), [.type T, .type U], isD T d || isD U d, rfl, upd_same, .cons (.ty T) (.cons (.ty U) .nil), ty_of D2 (noDic_ne hn), ?_, k _ _ (R1.grow g) ((K1.trans (Kp.grow (t := false) g)).up (by simp)) (.bl _)⟩
      refine kitAny_cons (kit_ty (isD_kit okT d (noDic_ne hn))) (fun hb => ?_) fun hb => by rw [hb]; rfl
      refine kitAny_cons (kit_ty (isD_kit okU d (noDic_ne hn))) (fun hb2 => ?_) fun hb2 => by rw [hb2, Bool.or_true]
      rw [hb, hb2]
      exact kitAny_nil
    · cases e1) fun _ _ _ h => h⟩

/-! ### gcd, and built-ins of two ints -/
def gcdD : D → D → Option D
  | .int i, .int j => some (.int (Nat.gcd i.natAbs j.natAbs : Nat))
  | _, _ => none
def max2D : D → D → Option D
  | .int i, .int j => some (.int (if j > i then j else i))
  | _, _ => none
def min2D : D → D → Option D
  | .int i, .int j => some (.int (if j < i then j else i))
  | _, _ => none
def Ser2 (X : Cx) (r : List V → Hp → VK → Prop) (f : D → D → Option D) : Prop := ∀ (H : Hp) (i j : Int) (z : D) (Q : VK), f (.int i) (.int j) = some z → (∀ v, (∀ S, Dn X.prog X.w X.K S H v z) → Q v H) → r [.int i, .int j] H Q
theorem t_call2 {r : List V → Hp → VK → Prop} {f : D → D → Option D} {u v t s : Bool} {m n : M D} (hc : (u && s) = false) (hf : ∀ d e z, f d e = some z → ∃ i j, d = .int i ∧ e = .int j) (hr : Ser2 X r f) :
    ∀ σ H Q, TG X W XR false (t || s) (bin f m n) σ H Q → tCB r (tCons (TG X W XR u t m) (tCons (TG X W XR v s n) tNil)) σ H Q := fun σ H Q ⟨F, ρ, R, z⟩ =>
  ⟨F, ρ, R, Out.sat_mono (sat2 z) (fun d ρ1 k x H1 R1 K1 D1 => ⟨F, ρ1, R1, Out.sat_mono (sat2 k) (fun e ρ2 k2 y H2 R2 K2 D2 => by
    obtain ⟨c, e1, k3⟩ := satl k2
    obtain ⟨i, j, rfl, rfl⟩ := hf _ _ _ e1
    have hx := int_of ((Rg.kp hc K2 D1).bd : Bd X.prog X.w X.K _ _ _ _)
    have hy := int_of (D2.bd : Bd X.prog X.w X.K _ _ _ _)
    subst hx hy
    exact hr H2 i j c Q e1 fun v h => k3 v H2 R2 (K1.trans K2) (h _)) fun _ _ _ h => h⟩) fun _ _ _ h => h⟩
theorem two_ints {f : Int → Int → D} {g : D → D → Option D} (hg : ∀ d e z, g d e = some z → ∃ i j, d = .int i ∧ e = .int j ∧ z = f i j) : ∀ d e z, g d e = some z → ∃ i j, d = .int i ∧ e = .int j := fun d e z h => let ⟨i, j, h1, h2, _⟩ := hg d e z h; ⟨i, j, h1, h2⟩
theorem gcd_ints : ∀ d e z, gcdD d e = some z → ∃ i j, d = .int i ∧ e = .int j := fun d e z h => by
  cases d <;> cases e <;> first | exact ⟨_, _, rfl, rfl⟩ | cases h
theorem max2_ints : ∀ d e z, max2D d e = some z → ∃ i j, d = .int i ∧ e = .int j := fun d e z h => by
  cases d <;> cases e <;> first | exact ⟨_, _, rfl, rfl⟩ | cases h
theorem min2_ints : ∀ d e z, min2D d e = some z → ∃ i j, d = .int i ∧ e = .int j := fun d e z h => by
  cases d <;> cases e <;> first | exact ⟨_, _, rfl, rfl⟩ | cases h
theorem e_gcd {x : Str} {p pos : Pos} {a b : Expr} {u v t s : Bool} {m n : M D} (hg : Gl X x) (hm : X.mg x = some (.builtin "math.gcd")) (hdb : (x == ("__debug__" : Str)) = false) (h1 : noStar a = true) (h2 : noStar b = true) (hc : (u && s) = false)
    (ha : PE X a (TG X W XR u t m)) (hb : PE X b (TG X W XR v s n)) : PE X (.Call (.Name x p) [a, b] [] pos) (TG X W XR false (t || s) (bin gcdD m n)) :=
  PEi (pe_callBfun cr_gcd hg hm (pa_cons ha (pa_cons hb pa_nil (star1 h2)) (star1 h1)) hdb (star1 h1) (by rw [star1 h2]; rfl)) (t_call2 hc gcd_ints fun H i j z Q e k => by
    cases e
    exact ⟨i, j, rfl, k _ fun S => .int _⟩)
theorem e_max2 {x : Str} {p pos : Pos} {a b : Expr} {u v t s : Bool} {m n : M D} (cl : X.calm = true) (bn : Bn X x (.builtin "max")) (h1 : noStar a = true) (h2 : noStar b = true) (hc : (u && s) = false)
    (ha : PE X a (TG X W XR u t m)) (hb : PE X b (TG X W XR v s n)) : PE X (.Call (.Name x p) [a, b] [] pos) (TG X W XR false (t || s) (bin max2D m n)) :=
  PEi (pe_callB (call_max2 cl) bn.gl bn.mg bn.bt (pa_cons ha (pa_cons hb pa_nil (star1 h2)) (star1 h1)) bn.nn bn.nd (star1 h1) (by rw [star1 h2]; rfl)) (t_call2 hc max2_ints fun H i j z Q e k => by
    cases e
    exact ⟨i, j, rfl, k _ fun S => .int _⟩)
theorem e_min2 {x : Str} {p pos : Pos} {a b : Expr} {u v t s : Bool} {m n : M D} (cl : X.calm = true) (bn : Bn X x (.builtin "min")) (h1 : noStar a = true) (h2 : noStar b = true) (hc : (u && s) = false)
    (ha : PE X a (TG X W XR u t m)) (hb : PE X b (TG X W XR v s n)) : PE X (.Call (.Name x p) [a, b] [] pos) (TG X W XR false (t || s) (bin min2D m n)) :=
  PEi (pe_callB (call_min2 cl) bn.gl bn.mg bn.bt (pa_cons ha (pa_cons hb pa_nil (star1 h2)) (star1 h1)) bn.nn bn.nd (star1 h1) (by rw [star1 h2]; rfl)) (t_call2 hc min2_ints fun H i j z Q e k => by
    cases e
    exact ⟨i, j, rfl, k _ fun S => .int _⟩)
/-- list(range(..)) -/
def rgDs (a b : Int) : List D := (List.range (b - a).toNat).map fun i => .int (a + (i : Nat))
def rgOk (a b : Int) : Bool := decide (-4611686018427387904 ≤ a) && decide (a < 4611686018427387904) && decide (-4611686018427387904 ≤ b) && decide (b < 4611686018427387904) && szOk (b - a).toNat
end
end Rf
end
section
set_option Elab.async false
set_option linter.all false
set_option maxRecDepth 100000
set_option maxHeartbeats 2000000
/-! Rf, part E: stores, targets, what is walked, comprehensions. -/
namespace Rf
open PySem PySem.Spec L2
section
variable {X : Cx} {W : WX} {XR : XRep}
/-! ### what stood and may not be changed stands, whatever statements run -/
def Dk (ρ : Env) (σ : Sg) (H : Hp) (ρ' : Env) (σ' : Sg) (H' : Hp) : Prop := ∀ b o, H b = some o → ¬ MutA ρ σ b → H' b = some o ∧ ¬ MutA ρ' σ' b
theorem Dk.refl {ρ : Env} {σ : Sg} {H : Hp} : Dk ρ σ H ρ σ H := fun _ _ e h => ⟨e, h⟩
theorem Dk.trans {ρ ρ' ρ'' : Env} {σ σ' σ'' : Sg} {H H' H'' : Hp} (a : Dk ρ σ H ρ' σ' H') (b : Dk ρ' σ' H' ρ'' σ'' H'') : Dk ρ σ H ρ'' σ'' H'' := fun c o e h => let ⟨h1, h2⟩ := a c o e h; b c o h1 h2
theorem Kp.dk {t : Bool} {ρ ρ' : Env} {σ : Sg} {H H' : Hp} (k : Kp t ρ ρ' σ H H') : Dk ρ σ H ρ' σ H' := fun b o e h => ⟨k.kp b o e fun _ => h, fun ⟨i, h1, h2⟩ => h ⟨i, k.le i h1, h2⟩⟩
theorem Dk.al {F : Fr} {ρ ρ' : Env} {σ σ' : Sg} {H H' : Hp} (k : Dk ρ σ H ρ' σ' H') : ∀ b o, Al F ρ σ b → H b = some o → Al F ρ' σ' b ∧ H' b = some o := fun b o s e => let ⟨h1, h2⟩ := k b o e s.2; ⟨⟨s.1, h2⟩, h1⟩
/-- the slots js alone are changed -/
def Chg (js : List Nat) (σ σ' : Sg) : Prop := σ'.length = σ.length ∧ ∀ j, j ∉ js → σ'[j]? = σ[j]?
def ChgE (js : List Nat) (ρ ρ' : Env) : Prop := ∀ j, j ∉ js → ρ' j = ρ j

/-! ### a store -/
def notIo : Sl → Bool
  | .io _ => false
  | _ => true
/-- the slot i gets a value -/
theorem Rel.setIm {F : Fr} {ρ : Env} {σ : Sg} {H : Hp} {i : Nat} {v : V} {d : D} (R : Rel X.prog X.w X.K F ρ σ H) (hi : i < σ.length) (hn : notIo (ρ i) = true) (hv : Dn X.prog X.w X.K (Al F ρ σ) H v d) :
    Rel X.prog X.w X.K F (ρ.put i (.im d)) (σ.set i (some v)) H ∧ Dk ρ σ H (ρ.put i (.im d)) (σ.set i (some v)) H := by
  have ml : ∀ b, MutA (ρ.put i (.im d)) (σ.set i (some v)) b → MutA ρ σ b := fun b ⟨j, h1, h2⟩ => by
    by_cases z : j = i
    · subst z; rw [put_same] at h1; cases h1
    · rw [put_ne z] at h1
      rw [List.getElem?_set_ne (Ne.symm z)] at h2
      exact ⟨j, h1, h2⟩
  have al : ∀ b o, Al F ρ σ b → H b = some o → Al F (ρ.put i (.im d)) (σ.set i (some v)) b ∧ H b = some o := fun b o s q => ⟨⟨s.1, fun z => s.2 (ml b z)⟩, q⟩
  have ot : ∀ j, j ≠ i → (σ.set i (some v))[j]? = σ[j]? := fun j z => List.getElem?_set_ne (Ne.symm z)
  refine ⟨⟨fun j c q => ?_, fun j c q => ?_, fun j c q => ?_, fun j c q => ?_, fun j k b hjk p1 p2 q1 q2 => ?_, fun p hp => ?_, R.fresh, R.ent⟩, fun b o e h => ⟨e, fun z => h (ml b z)⟩⟩
  · by_cases z : j = i
    · subst z
      rw [put_same] at q
      cases q
      exact ⟨v, by rw [List.getElem?_set_self hi], Dn.mono al hv⟩
    · rw [put_ne z] at q
      obtain ⟨v', p1, p2⟩ := R.im j c q
      exact ⟨v', by rw [ot j z]; exact p1, Dn.mono al p2⟩
  · by_cases z : j = i
    · subst z; rw [put_same] at q; cases q
    · rw [put_ne z] at q
      obtain ⟨a, p1, p2, p3⟩ := R.mu j c q
      exact ⟨a, by rw [ot j z]; exact p1, p2.mono al fun _ z => z, p3⟩
  · by_cases z : j = i
    · subst z; rw [put_same] at q; cases q
    · rw [put_ne z] at q
      obtain ⟨a, p1, p2, p3⟩ := R.io j c q
      exact ⟨a, by rw [ot j z]; exact p1, p2.mono al fun _ z => z, p3⟩
  · by_cases z : j = i
    · subst z; rw [put_same] at q; cases q
    · rw [put_ne z] at q
      obtain ⟨v', p1, p2⟩ := R.bo j c q
      refine ⟨v', by rw [ot j z]; exact p1, ?_⟩
      rcases p2 with p2 | ⟨b, r1, r2, r3, r4⟩
      · exact .inl (Dn.mono al p2)
      · exact .inr ⟨b, r1, r2.mono al fun _ z => z, fun z => r3 (ml b z), r4⟩
  · by_cases zj : j = i
    · subst zj; rw [put_same] at p1; cases p1
    · by_cases zk : k = i
      · subst zk; rw [put_same] at p2; cases p2
      · rw [put_ne zj] at p1
        rw [put_ne zk] at p2
        rw [ot j zj] at q1
        rw [ot k zk] at q2
        exact R.sep j k b hjk p1 p2 q1 q2
  · obtain ⟨⟨c, hc⟩, hs⟩ := R.ioin p hp
    have z : p.1 ≠ i := fun z => by rw [z] at hc; rw [hc] at hn; cases hn
    exact ⟨⟨c, by rw [put_ne z]; exact hc⟩, by rw [ot _ z]; exact hs⟩
/-- .. a list or dict just made, that the frame may change -/
theorem Rel.setMu {F : Fr} {ρ : Env} {σ : Sg} {H : Hp} {i : Nat} {a : Addr} {d : D} (R : Rel X.prog X.w X.K (F.but a) ρ σ H) (hi : i < σ.length) (hn : notIo (ρ i) = true) (h0 : F.H0 a = none) (hN : F.N a) (hm : ¬ MutA ρ σ a)
    (ob : Ob X.prog X.w X.K (Al (F.but a) ρ σ) H a d) : Rel X.prog X.w X.K F (ρ.put i (.mu d)) (σ.set i (some (.ref a))) H := by
  have ml : ∀ b, MutA (ρ.put i (.mu d)) (σ.set i (some (.ref a))) b → MutA ρ σ b ∨ b = a := fun b ⟨j, h1, h2⟩ => by
    by_cases z : j = i
    · subst z
      rw [List.getElem?_set_self hi] at h2
      cases h2
      exact .inr rfl
    · rw [put_ne z] at h1
      rw [List.getElem?_set_ne (Ne.symm z)] at h2
      exact .inl ⟨j, h1, h2⟩
  have al : ∀ b o, Al (F.but a) ρ σ b → H b = some o → Al F (ρ.put i (.mu d)) (σ.set i (some (.ref a))) b ∧ H b = some o := fun b o s q => ⟨⟨s.1.1, fun z => (ml b z).elim s.2 s.1.2⟩, q⟩
  have ot : ∀ j, j ≠ i → (σ.set i (some (V.ref a)))[j]? = σ[j]? := fun j z => List.getElem?_set_ne (Ne.symm z)
  refine ⟨fun j c q => ?_, fun j c q => ?_, fun j c q => ?_, fun j c q => ?_, fun j k b hjk p1 p2 q1 q2 => ?_, fun p hp => ?_, fun b e => (R.fresh b e).1, R.ent⟩
  · by_cases z : j = i
    · subst z; rw [put_same] at q; cases q
    · rw [put_ne z] at q
      obtain ⟨v', p1, p2⟩ := R.im j c q
      exact ⟨v', by rw [ot j z]; exact p1, Dn.mono al p2⟩
  · by_cases z : j = i
    · subst z
      rw [put_same] at q
      cases q
      exact ⟨a, by rw [List.getElem?_set_self hi], ob.mono al fun _ z => z, h0, hN⟩
    · rw [put_ne z] at q
      obtain ⟨b, p1, p2, p3, p4⟩ := R.mu j c q
      exact ⟨b, by rw [ot j z]; exact p1, p2.mono al fun _ z => z, p3, p4.1⟩
  · by_cases z : j = i
    · subst z; rw [put_same] at q; cases q
    · rw [put_ne z] at q
      obtain ⟨b, p1, p2, p3⟩ := R.io j c q
      exact ⟨b, by rw [ot j z]; exact p1, p2.mono al fun _ z => z, p3⟩
  · by_cases z : j = i
    · subst z; rw [put_same] at q; cases q
    · rw [put_ne z] at q
      obtain ⟨v', p1, p2⟩ := R.bo j c q
      refine ⟨v', by rw [ot j z]; exact p1, ?_⟩
      rcases p2 with p2 | ⟨b, r1, r2, r3, r4⟩
      · exact .inl (Dn.mono al p2)
      · have hb : b ≠ a := fun z => r4.1.elim (fun y => y.2 z) fun y => y (by rw [z]; exact h0)
        exact .inr ⟨b, r1, r2.mono al fun _ z => z, fun z => (ml b z).elim r3 hb, r4.1.imp_left fun z => z.1, r4.2⟩
  · by_cases zj : j = i
    · subst zj
      rw [List.getElem?_set_self hi] at q1
      cases q1
      rw [put_ne (Ne.symm hjk)] at p2
      rw [ot k (Ne.symm hjk)] at q2
      exact hm ⟨k, p2, q2⟩
    · by_cases zk : k = i
      · subst zk
        rw [List.getElem?_set_self hi] at q2
        cases q2
        rw [put_ne hjk] at p1
        rw [ot j hjk] at q1
        exact hm ⟨j, p1, q1⟩
      · rw [put_ne zj] at p1
        rw [put_ne zk] at p2
        rw [ot j zj] at q1
        rw [ot k zk] at q2
        exact R.sep j k b hjk p1 p2 q1 q2
  · obtain ⟨⟨c, hc⟩, hs⟩ := R.ioin p hp
    have z : p.1 ≠ i := fun z => by rw [z] at hc; rw [hc] at hn; cases hn
    exact ⟨⟨c, by rw [put_ne z]; exact hc⟩, by rw [ot _ z]; exact hs⟩

/-! ### targets -/
theorem PGi {e : Expr} {t t' : L2.TG} (h : PG X e t) (i : ∀ v σ H Q, σ.length = X.N.length → t' v σ H Q → t v σ H Q) : PG X e t' := ⟨fun p s σ H v u Q I r z => h.run p s σ H v u Q I r (i v σ H Q I.len z)⟩
theorem PGsi {e : List Expr} {t t' : TGs} (h : PGs X e t) (i : ∀ v σ H Q, σ.length = X.N.length → t' v σ H Q → t v σ H Q) : PGs X e t' := ⟨fun p s σ H v u Q I r z => h.run p s σ H v u Q I r (i v σ H Q I.len z)⟩
theorem PSi {e : Stmt} {t t' : TS} (h : PS X e t) (i : ∀ D σ H, σ.length = X.N.length → t' D σ H → t D σ H) : PS X e t' := ⟨fun p s σ H D I z => h.run p s σ H D I (i D σ H I.len z)⟩
theorem PSsi {e : List Stmt} {t t' : TS} (h : PSs X e t) (i : ∀ D σ H, σ.length = X.N.length → t' D σ H → t D σ H) : PSs X e t' := ⟨fun p s σ H D I z => h.run p s σ H D I (i D σ H I.len z)⟩
inductive Pat where
  | nm (i : Nat)
  | tp (ps : List Pat)
mutual
def bindP : Pat → D → Env → Option Env
  | .nm i, d, ρ => if notIo (ρ i) then some (ρ.put i (.im d)) else none
  | .tp ps, d, ρ => match itemsD d with
    | some ds => bindPs ps ds ρ
    | none => none
def bindPs : List Pat → List D → Env → Option Env
  | [], [], ρ => some ρ
  | p :: ps, d :: ds, ρ => match bindP p d ρ with
    | some ρ' => bindPs ps ds ρ'
    | none => none
  | _, _, _ => none
end
mutual
def patVs : Pat → List Nat
  | .nm i => [i]
  | .tp ps => patVss ps
def patVss : List Pat → List Nat
  | [] => []
  | p :: ps => patVs p ++ patVss ps
end
theorem Chg.refl {js : List Nat} {σ : Sg} : Chg js σ σ := ⟨rfl, fun _ _ => rfl⟩
theorem Chg.trans {js ks : List Nat} {σ σ' σ'' : Sg} (a : Chg js σ σ') (b : Chg ks σ' σ'') : Chg (js ++ ks) σ σ'' := ⟨b.1.trans a.1, fun j h => (b.2 j fun z => h (List.mem_append.mpr (.inr z))).trans (a.2 j fun z => h (List.mem_append.mpr (.inl z)))⟩
theorem ChgE.trans {js ks : List Nat} {σ σ' σ'' : Env} (a : ChgE js σ σ') (b : ChgE ks σ' σ'') : ChgE (js ++ ks) σ σ'' := fun j h => (b j fun z => h (List.mem_append.mpr (.inr z))).trans (a j fun z => h (List.mem_append.mpr (.inl z)))
/-- a target: data is put into it -/
def gP (X : Cx) (p : Pat) : L2.TG := fun v σ H Q => ∃ F ρ d ρ', Rel X.prog X.w X.K F ρ σ H ∧ Dn X.prog X.w X.K (Al F ρ σ) H v d ∧ bindP p d ρ = some ρ' ∧
  ∀ σ', Rel X.prog X.w X.K F ρ' σ' H → Dk ρ σ H ρ' σ' H → Chg (patVs p) σ σ' → ChgE (patVs p) ρ ρ' → Q σ' H
def gPs (X : Cx) (p : List Pat) : TGs := fun v σ H Q => ∃ F ρ d ρ', Rel X.prog X.w X.K F ρ σ H ∧ DnAll X.prog X.w X.K (Al F ρ σ) H v d ∧ bindPs p d ρ = some ρ' ∧
  ∀ σ', Rel X.prog X.w X.K F ρ' σ' H → Dk ρ σ H ρ' σ' H → Chg (patVss p) σ σ' → ChgE (patVss p) ρ ρ' → Q σ' H
theorem g_nm {i : Nat} {x : Str} {pos : Pos} (h : PG X (.Name x pos) (gName i)) (hi : i < X.N.length) : PG X (.Name x pos) (gP X (.nm i)) := PGi h fun v σ H Q hl ⟨F, ρ, d, ρ', R, hd, e, k⟩ => by
  unfold bindP at e
  split at e
  · rename_i hz
    cases e
    obtain ⟨R', dk⟩ := R.setIm (by rw [hl]; exact hi) hz hd
    exact k _ R' dk ⟨List.length_set, fun j hj => List.getElem?_set_ne fun z => hj (by simp [patVs, z])⟩ fun j hj => put_ne fun z => hj (by simp [patVs, z])
  · cases e
theorem gs_nil : PGs X [] (gPs X []) := PGsi pgs_nil fun v σ H Q hl ⟨F, ρ, d, ρ', R, hd, e, k⟩ => by
  cases hd with
  | nil =>
    cases e
    exact ⟨rfl, k σ R Dk.refl Chg.refl fun _ _ => rfl⟩
  | cons _ _ => cases e
theorem gs_cons {e : Expr} {es : List Expr} {p : Pat} {ps : List Pat} (h1 : PG X e (gP X p)) (h2 : PGs X es (gPs X ps))
    (hs : (assignEach (e :: es) X.env).map (·.2) = assign e X.env :: (assignEach es X.env).map (·.2)) : PGs X (e :: es) (gPs X (p :: ps)) := PGsi (pgs_cons h1 h2 hs) fun v σ H Q hl ⟨F, ρ, d, ρ', R, hd, e, k⟩ => by
  cases hd with
  | nil => cases e
  | cons q r =>
    unfold bindPs at e
    cases e1 : bindP p _ ρ with
    | none => rw [e1] at e; cases e
    | some ρ1 =>
      rw [e1] at e
      exact ⟨_, _, rfl, F, ρ, _, ρ1, R, q, e1, fun σ1 R1 k1 c1 d1 => ⟨F, ρ1, _, ρ', R1, DnAll.mono k1.al r, e, fun σ2 R2 k2 c2 d2 => k σ2 R2 (k1.trans k2) (c1.trans c2) (d1.trans d2)⟩⟩
theorem g_tp {es : List Expr} {k : Nat} {pos : Pos} {ps : List Pat} (hc : X.calm = true) (h : PGs X es (gPs X ps)) (hl : es.length = ps.length)
    (hn : (assignEach es X.env).length = es.length) (hst : (assignEach es X.env).findIdx? (·.1) = none) : PG X (.Tuple es k pos) (gP X (.tp ps)) := by
  have bl : ∀ (ps : List Pat) (ds : List D) (ρ ρ' : Env), bindPs ps ds ρ = some ρ' → ds.length = ps.length := by
    intro ps
    induction ps with
    | nil => intro ds ρ ρ' e; cases ds with
      | nil => rfl
      | cons _ _ => cases e
    | cons p ps ih => intro ds ρ ρ' e; cases ds with
      | nil => cases e
      | cons d ds =>
        unfold bindPs at e
        split at e
        · simp [ih _ _ _ e]
        · cases e
  have a := pg_tup (pos := pos) (k := k) (n := es.length) hc h hn hst
  have b := pg_lst (pos := pos) (k := k) (n := es.length) hc h hn hst
  refine ⟨fun pins s σ H v u Q I r ⟨F, ρ, d, ρ', R, hd, e, z⟩ => ?_⟩
  unfold bindP at e
  cases d with
  | tuple ds =>
    obtain ⟨_, p, xs, rfl, sq, dn⟩ := tup_of (.inl hd)
    exact a.run pins s σ H _ u Q I r ⟨p, xs, rfl, sq, by rw [dn.length, bl _ _ _ _ e, hl], F, ρ, ds, ρ', R, dn, e, z⟩
  | list ds =>
    obtain ⟨p, xs, rfl, sq, dn⟩ := lst_of (.inl hd)
    exact b.run pins s σ H _ u Q I r ⟨p, xs, rfl, sq, by rw [dn.length, bl _ _ _ _ e, hl], F, ρ, ds, ρ', R, dn, e, z⟩
  | _ => cases e

/-! ### what is walked -/
/-- an iterator that yields data: as long as what S, T name stays -/
def Wk (X : Cx) (S T : Addr → Prop) (H : Hp) (J : It) (ds : List D) : Prop :=
  ∀ (S' : Addr → Prop) (H' : Hp), (∀ a o, S a → H a = some o → S' a ∧ H' a = some o) → (∀ a o, T a → H a = some o → H' a = some o) → (∀ i, i < ds.length → J.go i H') ∧ J.stop ds.length H' ∧
    ∀ i x H'', i < ds.length → J.yld i H' x H'' → (∀ b o, H' b = some o → H'' b = some o) ∧ ∀ S'' : Addr → Prop, (∀ a, S' a → S'' a) → (∀ a, H' a = none → S'' a) → ∃ d, ds[i]? = some d ∧ Dn X.prog X.w X.K S'' H'' x d
/-- u: it is walked as it stands: nothing of what stands may change; else: nothing that the frame may not change -/
def TSo (u : Bool) (F : Fr) (ρ : Env) (σ : Sg) : Addr → Prop := fun a => u = true ∨ (¬ MutA ρ σ a ∧ (F.N a ∨ F.H0 a ≠ none))
def ti (W : WX) (XR : XRep) (u t : Bool) (m : M (List D)) : TI := fun σ H R => ∃ F ρ, Rel X.prog X.w X.K F ρ σ H ∧
  (m ρ).sat (fun ds ρ' => ∀ J H', Rel X.prog X.w X.K F ρ' σ H' → Kp t ρ ρ' σ H H' → Wk X (Al F ρ' σ) (TSo u F ρ' σ) H' J ds → R J H') (Xw X.prog X.w X.K W XR F σ)
theorem PIi {tg e : Expr} {t t' : TI} (h : PI X tg e t) (i : ∀ σ H R, t' σ H R → t σ H R) : PI X tg e t' := ⟨fun p s σ H R I z => h.run p s σ H R I (i σ H R z)⟩
theorem PI.or {tg e : Expr} {t t' : TI} (h : PI X tg e t) (i : PI X tg e t') : PI X tg e (fun σ H R => t σ H R ∨ t' σ H R) := ⟨fun p s σ H R I z => z.elim (h.run p s σ H R I) (i.run p s σ H R I)⟩
end
end Rf
end
section
set_option Elab.async false
set_option linter.all false
set_option maxRecDepth 100000
set_option maxHeartbeats 2000000
/-! Rf, part Zp: zip of a list and a tuple, in either order. -/
namespace Rf
open PySem PySem.Spec PyProof.Rows L2 RZ
open PySem.Sem (wp)
/-- an iterator over a list (true) or a tuple (false) -/
def IsIt (b : Bool) (h : Heap) (it l : Addr) (i : Nat) : Prop := if b = true then h.IsListIter it l i else h.IsTupleIter it l i
def IsSq (b : Bool) (h : Heap) (l : Addr) (xs : Array Value) : Prop := if b = true then h.IsList l xs else h.IsTuple l xs
def SqB (b : Bool) (K : PySem.W.Frag) (H : Hp) (a : Addr) (xs : List V) : Prop := if b = true then SqL K H a xs else SqT K H a xs
theorem IsIt.extBut {b : Bool} {h h' : Heap} {a c l : Addr} {i : Nat} (x : IsIt b h a l i) (hs : Heap.ExtBut c h h') (ne : a ≠ c) : IsIt b h' a l i := by
  cases b
  · exact Heap.IsTupleIter.extBut (show h.IsTupleIter a l i from x) hs ne
  · exact Heap.IsListIter.extBut (show h.IsListIter a l i from x) hs ne
theorem IsSq.extBut {b : Bool} {h h' : Heap} {a c : Addr} {xs : Array Value} (x : IsSq b h a xs) (hs : Heap.ExtBut c h h') (ne : a ≠ c) : IsSq b h' a xs := by
  cases b
  · exact Heap.IsTuple.extBut (show h.IsTuple a xs from x) hs ne
  · exact Heap.IsList.extBut (show h.IsList a xs from x) hs ne
theorem IsIt.at {b : Bool} {h h' : Heap} {a l : Addr} {i : Nat} (x : IsIt b h a l i) (e : ∀ o, h.get? a = some o → h'.get? a = some o) : IsIt b h' a l i := by
  cases b
  · obtain ⟨o, ho, r⟩ := show h.IsTupleIter a l i from x
    exact ⟨o, e o ho, r⟩
  · obtain ⟨o, ho, r⟩ := show h.IsListIter a l i from x
    exact ⟨o, e o ho, r⟩
theorem IsIt.dat {b : Bool} {h : Heap} {a l : Addr} {i : Nat} (x : IsIt b h a l i) : ∃ o, h.get? a = some o ∧ o.data = .fields #[.ref l, .int i 0] := by
  cases b
  · obtain ⟨o, ho, _, d⟩ := show h.IsTupleIter a l i from x
    exact ⟨o, ho, d⟩
  · obtain ⟨o, ho, _, d⟩ := show h.IsListIter a l i from x
    exact ⟨o, ho, d⟩
theorem IsIt.lt {b : Bool} {h : Heap} {a l : Addr} {i : Nat} (x : IsIt b h a l i) : a < h.objs.size := let ⟨_, ho, _⟩ := x.dat; Heap.lt_size ho
theorem IsSq.lt {b : Bool} {h : Heap} {a : Addr} {xs : Array Value} (x : IsSq b h a xs) : a < h.objs.size := by
  cases b
  · obtain ⟨o, ho, _⟩ := show h.IsTuple a xs from x
    exact Heap.lt_size ho
  · obtain ⟨o, ho, _⟩ := show h.IsList a xs from x
    exact Heap.lt_size ho
section
variable {X : Cx} {pins : List (Addr × Obj)} {σ : L2.St} {H : Hp} {s : Shared}
theorem sq_at {b : Bool} {a : Addr} {xs : List V} (I : Inv X pins σ H s) (h : SqB b X.K H a xs) : ∃ its : List Value, Vals xs its ∧ IsSq b s.heap a its.toArray := by
  cases b
  · obtain ⟨its, rv, p, _⟩ := I.tuple (show SqT X.K H a xs from h)
    exact ⟨its, rv, p⟩
  · obtain ⟨its, rv, p, _⟩ := I.list (show SqL X.K H a xs from h)
    exact ⟨its, rv, p.isList⟩
theorem sq_inj {b : Bool} {a : Addr} {xs ys : List V} (I : Inv X pins σ H s) (h : SqB b X.K H a xs) (k : SqB b X.K H a ys) : xs = ys := by
  cases b
  · exact I.tuple_inj (show SqT X.K H a xs from h) k
  · exact I.list_inj (show SqL X.K H a xs from h) k
end
section
variable {prog : Program} {w : World} {A : Around} {E : Value → Shared → Prop} {s : Shared}
theorem nx_item {b : Bool} {it l : Addr} {i : Nat} {its : Array Value} {x : Value} {Q : Value → Shared → Prop} (hit : IsIt b s.heap it l i) (hl : IsSq b s.heap l its) (hx : its[i]? = some x)
    (hQ : ∀ h', IsIt b h' it l (i + 1) → Heap.SameBut it s.heap h' → Q x { s with heap := h' }) : wpAny (model prog w) A (Builtin.SmallTypes.nextOf (.ref it)) Q E s := by
  cases b
  · exact RZ.nextOf_tuple_item hit hl hx hQ
  · exact wpAny_nextOf_list_item hit hl hx hQ
theorem nx_end {b : Bool} {it l : Addr} {i : Nat} {its : Array Value} {Q : Value → Shared → Prop} (hh : A.handled = none) (hit : IsIt b s.heap it l i) (hl : IsSq b s.heap l its) (hx : its[i]? = none)
    (hE : ∀ h' e, Heap.ExtBut it s.heap h' → (∃ o, h'.get? e = some o ∧ o.cls = .type "StopIteration") → E (.ref e) { s with heap := h' }) : wpAny (model prog w) A (Builtin.SmallTypes.nextOf (.ref it)) Q E s := by
  cases b
  · exact RZ.nextOf_tuple_end hh hit hl hx hE
  · exact wpAny_nextOf_list_end hh hit hl hx hE
theorem zp_item {b1 b2 : Bool} {zz ti tO j1 j2 l1 l2 : Addr} {k1 k2 : Nat} {xs ys : Array Value} {x y a b : Value} {Q : Value → Shared → Prop} (D : ZipApart zz ti tO j1 j2 l1 l2)
    (kz : IsZip s.heap zz ti tO .none) (kti : IsPair s.heap ti (.ref j1) (.ref j2)) (kto : IsPair s.heap tO a b)
    (h1 : IsIt b1 s.heap j1 l1 k1) (h2 : IsIt b2 s.heap j2 l2 k2) (hl1 : IsSq b1 s.heap l1 xs) (hl2 : IsSq b2 s.heap l2 ys) (hx : xs[k1]? = some x) (hy : ys[k2]? = some y)
    (hQ : ∀ h', IsZip h' zz ti tO (rawInt s.heap.objs.size) → IsPair h' tO x y → IsIt b1 h' j1 l1 (k1 + 1) → IsIt b2 h' j2 l2 (k2 + 1) → IsPair h' s.heap.objs.size x y → h'.objs.size = s.heap.objs.size + 1 →
      (∀ c o, c ≠ zz → c ≠ tO → c ≠ j1 → c ≠ j2 → s.heap.get? c = some o → h'.get? c = some o) → Q (.ref s.heap.objs.size) { s with heap := h' }) :
    wpAny (model prog w) A (Builtin.«zip.__next__» ⟨[.ref zz], []⟩) (fun fin s' => ∃ v, fin = .done (.ret v) ∧ Q v s') E s := by
  show wpAny _ _ (field (.ref zz) 2 >>= _) _ _ _
  refine wpAny_bind (wpAny_field kz rfl (x := .bool false) rfl ?_)
  show wpAny _ _ (field (.ref zz) 3 >>= _) _ _ _
  refine wpAny_bind (wpAny_field kz rfl (x := .ref ti) rfl ?_)
  refine wpAny_bind (wpAny_seqItems kti rfl ?_)
  show wpAny _ _ (Builtin.SmallTypes.ownedTupleIsFree (.ref zz) >>= _) _ _ _
  refine wpAny_bind ?_
  unfold Builtin.SmallTypes.ownedTupleIsFree
  refine wpAny_bind (wpAny_field kz rfl (x := .none) rfl (wpAny_pure ?_))
  simp only [if_true]
  refine wpAny_bind (wpAny_rule ?_)
  refine wpAny_bind (wpAny_field kz rfl (x := .ref tO) rfl ?_)
  refine wpAny_bind (wpAny_setField_rec kz (by simp) fun g₁ kz₁ ks₁ => ?_)
  replace kz₁ : IsZip g₁ zz ti tO .ellipsis := kz₁
  refine wpAny_bind ?_
  simp only [List.forIn_nil, List.forIn_cons, List.zipIdx_nil, List.zipIdx_cons]

  refine wpAny_bind (wpAny_bind (wpAny_onRaise ?_))
  show wpAny _ _ (Builtin.SmallTypes.nextOf (.ref j1) >>= _) _ _ _
  refine wpAny_bind (nx_item (h1.extBut ks₁.extBut D.i1z) (hl1.extBut ks₁.extBut D.l1z) hx fun g₂ h1₂ ks₂ => wpAny_pure ?_)
  have kto₂ : IsPair g₂ tO a b := ks₂.extBut _ _ D.TOi1 (ks₁.extBut _ _ D.TOz kto)
  refine wpAny_bind (wpAny_seqItems kto₂ rfl ?_)
  refine wpAny_bind (wpAny_updateSeq_pair kto₂ fun g₃ kto₃ ks₃ => ?_)
  replace kto₃ : IsPair g₃ tO x b := kto₃
  refine wpAny_bind (wpAny_letGo (wpAny_pure ?_))

  refine wpAny_bind (wpAny_bind (wpAny_onRaise ?_))
  show wpAny _ _ (Builtin.SmallTypes.nextOf (.ref j2) >>= _) _ _ _
  refine wpAny_bind (nx_item (((h2.extBut ks₁.extBut D.i2z).extBut ks₂.extBut D.i12.symm).extBut ks₃.extBut D.TOi2.symm)
    (((hl2.extBut ks₁.extBut D.l2z).extBut ks₂.extBut D.l2i1).extBut ks₃.extBut D.l2TO) hy fun g₄ h2₄ ks₄ => wpAny_pure ?_)
  have kto₄ : IsPair g₄ tO x b := ks₄.extBut _ _ D.TOi2 kto₃
  refine wpAny_bind (wpAny_seqItems kto₄ rfl ?_)
  refine wpAny_bind (wpAny_updateSeq_pair kto₄ fun g₅ kto₅ ks₅ => ?_)
  replace kto₅ : IsPair g₅ tO x y := kto₅
  refine wpAny_bind (wpAny_letGo (wpAny_pure (wpAny_pure ?_)))

  refine wpAny_bind (wpAny_seqItems kto₅ rfl ?_)
  refine wpAny_bind (wpAny_newTuple ?_)
  have ksz : g₅.objs.size = s.heap.objs.size := by rw [ks₅.1, ks₄.1, ks₃.1, ks₂.1, ks₁.1]
  have kz₅ : IsZip g₅ zz ti tO .ellipsis := ks₅.extBut _ _ D.TOz.symm (ks₄.extBut _ _ D.i2z.symm (ks₃.extBut _ _ D.TOz.symm (ks₂.extBut _ _ D.i1z.symm kz₁)))
  have hk₅ : ∀ c o, c ≠ zz → c ≠ tO → c ≠ j1 → c ≠ j2 → s.heap.get? c = some o → g₅.get? c = some o := fun c o c1 c2 c3 c4 e =>
    ks₅.extBut _ _ c2 (ks₄.extBut _ _ c4 (ks₃.extBut _ _ c2 (ks₂.extBut _ _ c3 (ks₁.extBut _ _ c1 e))))
  have h1₅ : IsIt b1 g₅ j1 l1 (k1 + 1) := ((h1₂.extBut ks₃.extBut D.TOi1.symm).extBut ks₄.extBut D.i12).extBut ks₅.extBut D.TOi1.symm
  have h2₅ : IsIt b2 g₅ j2 l2 (k2 + 1) := h2₄.extBut ks₅.extBut D.TOi2.symm
  have hzlt : zz < g₅.objs.size := Heap.lt_size kz₅
  have hTOlt : tO < g₅.objs.size := Heap.lt_size kto₅
  have hi1lt : j1 < g₅.objs.size := h1₅.lt
  have hi2lt : j2 < g₅.objs.size := h2₅.lt
  show wpAny _ _ (Builtin.SmallTypes.ownedTupleHandOut (.ref zz) (.ref g₅.objs.size) >>= _) _ _ _
  refine wpAny_bind ?_
  unfold Builtin.SmallTypes.ownedTupleHandOut
  have kz₆ : IsZip (g₅.push { cls := .type "tuple", data := .seq #[x, y] }) zz ti tO .ellipsis := Heap.get?_push_of_some _ kz₅
  refine wpAny_bind (wpAny_setField_rec kz₆ (by simp) fun g₇ kz₇ ks₇ => ?_)
  replace kz₇ : IsZip g₇ zz ti tO (rawInt g₅.objs.size) := kz₇
  refine wpAny_setField_rec kz₇ (by simp) fun g₈ kz₈ ks₈ => ?_
  replace kz₈ : IsZip g₈ zz ti tO (rawInt g₅.objs.size) := kz₈
  have up : ∀ c o, c ≠ zz → g₅.get? c = some o → g₈.get? c = some o := fun c o c1 e => ks₈.extBut _ _ c1 (ks₇.extBut _ _ c1 (Heap.get?_push_of_some _ e))
  have hT₈ : IsPair g₈ g₅.objs.size x y := ks₈.extBut _ _ (Nat.ne_of_gt hzlt) (ks₇.extBut _ _ (Nat.ne_of_gt hzlt) (Heap.get?_push_size _ rfl))
  have hz8 : g₈.objs.size = g₅.objs.size + 1 := by rw [ks₈.1, ks₇.1, Heap.size_push]
  rw [ksz] at kz₈ hT₈ hz8
  refine wpAny_pure ⟨_, rfl, ?_⟩
  show Q (.ref g₅.objs.size) _
  rw [ksz]
  exact hQ g₈ kz₈ (up _ _ D.TOz kto₅) (h1₅.at fun o e => up _ o D.i1z e) (h2₅.at fun o e => up _ o D.i2z e) hT₈ hz8 fun c o c1 c2 c3 c4 e => up c o c1 (hk₅ c o c1 c2 c3 c4 e)

theorem zp_end {b1 b2 : Bool} {zz ti tO j1 j2 l1 l2 : Addr} {k1 k2 : Nat} {xs ys : Array Value} {a b : Value} {Q : Fin → Shared → Prop} (hh : A.handled = none) (D : ZipApart zz ti tO j1 j2 l1 l2)
    (kz : IsZip s.heap zz ti tO .none) (kti : IsPair s.heap ti (.ref j1) (.ref j2)) (kto : IsPair s.heap tO a b)
    (h1 : IsIt b1 s.heap j1 l1 k1) (h2 : IsIt b2 s.heap j2 l2 k2) (hl1 : IsSq b1 s.heap l1 xs) (hl2 : IsSq b2 s.heap l2 ys) (hend : xs[k1]? = none ∨ ys[k2]? = none)
    (hE : ∀ h' e, (∀ c o, c ≠ zz → c ≠ tO → c ≠ j1 → c ≠ j2 → s.heap.get? c = some o → h'.get? c = some o) → (∃ o, h'.get? e = some o ∧ o.cls = .type "StopIteration") → E (.ref e) { s with heap := h' }) :
    wpAny (model prog w) A (Builtin.«zip.__next__» ⟨[.ref zz], []⟩) Q E s := by
  show wpAny _ _ (field (.ref zz) 2 >>= _) _ _ _
  refine wpAny_bind (wpAny_field kz rfl (x := .bool false) rfl ?_)
  show wpAny _ _ (field (.ref zz) 3 >>= _) _ _ _
  refine wpAny_bind (wpAny_field kz rfl (x := .ref ti) rfl ?_)
  refine wpAny_bind (wpAny_seqItems kti rfl ?_)
  show wpAny _ _ (Builtin.SmallTypes.ownedTupleIsFree (.ref zz) >>= _) _ _ _
  refine wpAny_bind ?_
  unfold Builtin.SmallTypes.ownedTupleIsFree
  refine wpAny_bind (wpAny_field kz rfl (x := .none) rfl (wpAny_pure ?_))
  simp only [if_true]
  refine wpAny_bind (wpAny_rule ?_)
  refine wpAny_bind (wpAny_field kz rfl (x := .ref tO) rfl ?_)
  refine wpAny_bind (wpAny_setField_rec kz (by simp) fun g₁ kz₁ ks₁ => ?_)
  replace kz₁ : IsZip g₁ zz ti tO .ellipsis := kz₁
  refine wpAny_bind ?_
  simp only [List.forIn_nil, List.forIn_cons, List.zipIdx_nil, List.zipIdx_cons]
  refine wpAny_bind (wpAny_bind (wpAny_onRaise ?_))
  show wpAny _ _ (Builtin.SmallTypes.nextOf (.ref j1) >>= _) _ _ _
  cases hx : xs[k1]? with
  | none =>
    refine wpAny_bind (nx_end hh (h1.extBut ks₁.extBut D.i1z) (hl1.extBut ks₁.extBut D.l1z) hx fun g₂ e ks₂ he => ?_)
    obtain ⟨oe, hoe, hce⟩ := he
    have kz₂ : IsZip g₂ zz ti tO .ellipsis := ks₂ _ _ D.i1z.symm kz₁
    have hez : e ≠ zz := fun x => by subst x; rw [kz₂] at hoe; cases hoe; simp at hce
    refine wpAny_setField_rec kz₂ (by simp) fun g₃ _ ks₃ => hE g₃ e (fun c o c1 _ c3 _ x => ks₃.extBut _ _ c1 (ks₂ _ _ c3 (ks₁.extBut _ _ c1 x))) ⟨oe, ks₃.extBut _ _ hez hoe, hce⟩
  | some x =>
    have hy : ys[k2]? = none := by rcases hend with h | h; rw [hx] at h; cases h; exact h
    refine wpAny_bind (nx_item (h1.extBut ks₁.extBut D.i1z) (hl1.extBut ks₁.extBut D.l1z) hx fun g₂ h1₂ ks₂ => wpAny_pure ?_)
    have kto₂ : IsPair g₂ tO a b := ks₂.extBut _ _ D.TOi1 (ks₁.extBut _ _ D.TOz kto)
    refine wpAny_bind (wpAny_seqItems kto₂ rfl ?_)
    refine wpAny_bind (wpAny_updateSeq_pair kto₂ fun g₃ kto₃ ks₃ => ?_)
    refine wpAny_bind (wpAny_letGo (wpAny_pure ?_))
    refine wpAny_bind (wpAny_bind (wpAny_onRaise ?_))
    show wpAny _ _ (Builtin.SmallTypes.nextOf (.ref j2) >>= _) _ _ _
    refine wpAny_bind (nx_end hh (((h2.extBut ks₁.extBut D.i2z).extBut ks₂.extBut D.i12.symm).extBut ks₃.extBut D.TOi2.symm)
      (((hl2.extBut ks₁.extBut D.l2z).extBut ks₂.extBut D.l2i1).extBut ks₃.extBut D.l2TO) hy fun g₄ e ks₄ he => ?_)
    obtain ⟨oe, hoe, hce⟩ := he
    have kz₄ : IsZip g₄ zz ti tO .ellipsis := ks₄ _ _ D.i2z.symm (ks₃.extBut _ _ D.TOz.symm (ks₂.extBut _ _ D.i1z.symm kz₁))
    have hez : e ≠ zz := fun x => by subst x; rw [kz₄] at hoe; cases hoe; simp at hce
    refine wpAny_setField_rec kz₄ (by simp) fun g₅ _ ks₅ => hE g₅ e (fun c o c1 c2 c3 c4 x => ks₅.extBut _ _ c1 (ks₄ _ _ c4 (ks₃.extBut _ _ c2 (ks₂.extBut _ _ c3 (ks₁.extBut _ _ c1 x))))) ⟨oe, ks₅.extBut _ _ hez hoe, hce⟩

theorem zp_nextI {b1 b2 : Bool} {zz ti tO j1 j2 l1 l2 : Addr} {k1 k2 : Nat} {xs ys : Array Value} {x y a b : Value} {Q : Option Value → Shared → Prop} (D : ZipApart zz ti tO j1 j2 l1 l2)
    (kz : IsZip s.heap zz ti tO .none) (kti : IsPair s.heap ti (.ref j1) (.ref j2)) (kto : IsPair s.heap tO a b)
    (h1 : IsIt b1 s.heap j1 l1 k1) (h2 : IsIt b2 s.heap j2 l2 k2) (hl1 : IsSq b1 s.heap l1 xs) (hl2 : IsSq b2 s.heap l2 ys) (hx : xs[k1]? = some x) (hy : ys[k2]? = some y)
    (hQ : ∀ h', IsZip h' zz ti tO (rawInt s.heap.objs.size) → IsPair h' tO x y → IsIt b1 h' j1 l1 (k1 + 1) → IsIt b2 h' j2 l2 (k2 + 1) → IsPair h' s.heap.objs.size x y → h'.objs.size = s.heap.objs.size + 1 →
      (∀ c o, c ≠ zz → c ≠ tO → c ≠ j1 → c ≠ j2 → s.heap.get? c = some o → h'.get? c = some o) → Q (some (.ref s.heap.objs.size)) { s with heap := h' }) :
    wpAny (model prog w) A (pyNext (.ref zz)) Q E s := by
  have hT : s.TypeIs (.ref zz) "zip" := ⟨_, kz, rfl⟩
  unfold pyNext
  exact wpAny_bind (wpAny_attempt (wpAny_callSpecial?_slot (name := Str.ofString "__next__") hT F.slot_zip_next
    (wpAny_call_entry F.slot_zip_next hT F.entry_zip_next
      (zp_item D kz kti kto h1 h2 hl1 hl2 hx hy fun h' a1 a2 a3 a4 a5 a6 a7 => wpAny_pure (hQ h' a1 a2 a3 a4 a5 a6 a7)) (F.args_zip_next_1 _))))

theorem zp_nextE {b1 b2 : Bool} {zz ti tO j1 j2 l1 l2 : Addr} {k1 k2 : Nat} {xs ys : Array Value} {a b : Value} {Q : Option Value → Shared → Prop} (hh : A.handled = none) (D : ZipApart zz ti tO j1 j2 l1 l2)
    (kz : IsZip s.heap zz ti tO .none) (kti : IsPair s.heap ti (.ref j1) (.ref j2)) (kto : IsPair s.heap tO a b)
    (h1 : IsIt b1 s.heap j1 l1 k1) (h2 : IsIt b2 s.heap j2 l2 k2) (hl1 : IsSq b1 s.heap l1 xs) (hl2 : IsSq b2 s.heap l2 ys) (hend : xs[k1]? = none ∨ ys[k2]? = none)
    (hQ : ∀ h', (∀ c o, c ≠ zz → c ≠ tO → c ≠ j1 → c ≠ j2 → s.heap.get? c = some o → h'.get? c = some o) → Q none { s with heap := h' }) : wpAny (model prog w) A (pyNext (.ref zz)) Q E s := by
  have hT : s.TypeIs (.ref zz) "zip" := ⟨_, kz, rfl⟩
  unfold pyNext
  refine wpAny_bind (wpAny_attempt (wpAny_callSpecial?_slot (name := Str.ofString "__next__") hT F.slot_zip_next
    (wpAny_call_entry F.slot_zip_next hT F.entry_zip_next (zp_end hh D kz kti kto h1 h2 hl1 hl2 hend fun h' e hk he => ?_) (F.args_zip_next_1 _))))
  obtain ⟨o, ho, hc⟩ := he
  refine wpAny_bind (wpAny_isInstance (T := "StopIteration") (b := true) ⟨o, ho, hc⟩ isSubtype_stop ?_)
  exact wpAny_pure (hQ _ hk)

end
def Izp (b1 b2 : Bool) (K : PySem.W.Frag) (a b : Addr) : It :=
  ⟨fun i H => ∃ (xs ys : List V) (x y : V), SqB b1 K H a xs ∧ SqB b2 K H b ys ∧ xs[i]? = some x ∧ ys[i]? = some y,
    fun i H v H' => ∃ T x y, v = .ref T ∧ H T = none ∧ H' = upd H T (.tup [x, y]) ∧ (∀ xs, SqB b1 K H a xs → xs[i]? = some x) ∧ ∀ ys, SqB b2 K H b ys → ys[i]? = some y,
    fun i H => ∃ xs ys : List V, SqB b1 K H a xs ∧ SqB b2 K H b ys ∧ (xs.length ≤ i ∨ ys.length ≤ i)⟩
theorem turn_zp {b1 b2 : Bool} {P : Program} {w : World} {K : PySem.W.Frag} {elts : List Expr} {kk : Nat} {tpos : Pos} {a b zz ti tO j1 j2 : Addr} (D : ZipApart zz ti tO j1 j2 a b) :
    Turn P w K (.Tuple elts kk tpos) (Izp b1 b2 K a b) [zz, ti, tO, j1, j2] zz (fun i h => IsZip h zz ti tO .none ∧ IsPair h ti (.ref j1) (.ref j2) ∧ (∃ x y, IsPair h tO x y) ∧ IsIt b1 h j1 a i ∧ IsIt b2 h j2 b i) where
  mem := by simp
  obj := fun i h st c hc => by
    obtain ⟨kz, kti, ⟨x, y, kto⟩, q1, q2⟩ := st
    obtain ⟨o1, e1, d1⟩ := q1.dat
    obtain ⟨o2, e2, d2⟩ := q2.dat
    have e' : c = zz ∨ c = ti ∨ c = tO ∨ c = j1 ∨ c = j2 := by simpa using hc
    rcases e' with q | q | q | q | q
    · rw [q]; exact ⟨_, kz, fun v q => nomatch q⟩
    · rw [q]; exact ⟨_, kti, fun v q => nomatch q⟩
    · rw [q]; exact ⟨_, kto, fun v q => nomatch q⟩
    · rw [q]; exact ⟨o1, e1, fun v q => by rw [d1] at q; cases q⟩
    · rw [q]; exact ⟨o2, e2, fun v q => by rw [d2] at q; cases q⟩
  keep := fun i h h' st k => by
    obtain ⟨kz, kti, ⟨x, y, kto⟩, h1, h2⟩ := st
    exact ⟨k zz (by simp) _ kz, k ti (by simp) _ kti, ⟨x, y, k tO (by simp) _ kto⟩, h1.at fun o q => k j1 (by simp) o q, h2.at fun o q => k j2 (by simp) o q⟩
  item := by
    intro X hP hw hK hc i pins s σ H E I hf st hg
    subst hP hw hK
    obtain ⟨kz, kti, ⟨x0, y0, kto⟩, h1, h2⟩ := st
    obtain ⟨xs, ys, x, y, hqx, hqy, hx, hy⟩ := hg
    obtain ⟨its, rv, p⟩ := sq_at I hqx
    obtain ⟨its2, rv2, p2⟩ := sq_at I hqy
    obtain ⟨u, hu, ru⟩ := rv.get hx
    obtain ⟨u2, hu2, ru2⟩ := rv2.get hy
    have hzl : zz < s.heap.objs.size := Heap.lt_size kz
    refine zp_nextI D kz kti kto h1 h2 p p2 (x := u) (y := u2) (by simpa using hu) (by simpa using hu2) fun h' zz' tO' h1' h2' hT ksz hk => ?_
    refine ⟨_, rfl, wpAny_letOwnedTupleGo_zip (s := { s with heap := h' }) zz' fun h'' zz'' sb => ?_⟩
    have hT2 : h''.get? s.heap.objs.size = some { cls := .type "tuple", data := .seq #[u, u2] } := (sb.2 _ (Nat.ne_of_gt hzl)).trans hT
    have new : ObjOk X.prog X.w (upd H s.heap.objs.size (.tup [x, y])) h'' s.heap.objs.size (.tup [x, y]) :=
      ⟨by show 2 ≤ sizeLine; decide, [u, u2], .cons ru (.cons ru2 .nil), ⟨_, hT2, rfl, _, rfl⟩⟩
    have I1 : Inv X pins σ (upd H s.heap.objs.size (.tup [x, y])) { s with heap := h'' } :=
      I.turnedNew (t' := s.toks) (ch := [zz, ti, tO, j1, j2]) (fun c o hb q => (sb.2 c (fun q' => hb (by simp [q']))).trans (hk c o (fun q' => hb (by simp [q'])) (fun q' => hb (by simp [q'])) (fun q' => hb (by simp [q'])) (fun q' => hb (by simp [q'])) q)) hf (Nat.le_refl _) new
    refine ⟨.ref s.heap.objs.size, _, I1, rfl, ⟨_, x, y, rfl, I.hok.fresh (Nat.le_refl _), rfl, fun l hl => by rw [sq_inj I hl hqx]; exact hx, fun l hl => by rw [sq_inj I hl hqy]; exact hy⟩, ⟨zz'', ?_, ⟨u, u2, ?_⟩, ?_, ?_⟩, fun c hcm => ?_⟩
    · exact (sb.2 _ D.TIz).trans (hk _ _ D.TIz D.TITO D.TIi1 D.TIi2 kti)
    · exact (sb.2 _ D.TOz).trans tO'
    · exact h1'.at fun o q => (sb.2 _ D.i1z).trans q
    · exact h2'.at fun o q => (sb.2 _ D.i2z).trans q
    · have hlt : c < s.heap.objs.size := by
        have e' : c = zz ∨ c = ti ∨ c = tO ∨ c = j1 ∨ c = j2 := by simpa using hcm
        rcases e' with q | q | q | q | q
        · rw [q]; exact hzl
        · rw [q]; exact Heap.lt_size kti
        · rw [q]; exact Heap.lt_size kto
        · rw [q]; exact h1.lt
        · rw [q]; exact h2.lt
      rw [upd_ne (Nat.ne_of_lt hlt)]
      exact (hf c hcm).1
  done := by
    intro X hP hw hK hc i pins s σ H E I hf st hg
    subst hP hw hK
    obtain ⟨kz, kti, ⟨x0, y0, kto⟩, h1, h2⟩ := st
    obtain ⟨xs, ys, hqx, hqy, hend⟩ := hg
    obtain ⟨its, rv, p⟩ := sq_at I hqx
    obtain ⟨its2, rv2, p2⟩ := sq_at I hqy
    have l1 := rv.length
    have l2 := rv2.length
    have he : its.toArray[i]? = none ∨ its2.toArray[i]? = none := by
      rcases hend with q | q
      · exact .inl (by simp; omega)
      · exact .inr (by simp; omega)
    exact zp_nextE (I.ok.hd hc) D kz kti kto h1 h2 p p2 he fun h' hk => ⟨rfl, I.turnedL (t' := s.toks) (ch := [zz, ti, tO, j1, j2]) (fun c o hb q =>
      hk c o (fun q' => hb (by simp [q'])) (fun q' => hb (by simp [q'])) (fun q' => hb (by simp [q'])) (fun q' => hb (by simp [q'])) q) hf⟩
  self := fun A i s Q E st h => wpAny_pyIter_zip st.1 h


/-! the zip object made -/
def itO (b : Bool) (l : Addr) : Obj := { cls := .type (if b = true then "list_iterator" else "tuple_iterator"), data := .fields #[.ref l, .int 0 0] }
abbrev zq1 (b1 : Bool) (h : Heap) (l1 : Addr) : Heap := h.push (itO b1 l1)
abbrev zq2 (b1 b2 : Bool) (h : Heap) (l1 l2 : Addr) : Heap := (zq1 b1 h l1).push (itO b2 l2)
abbrev zq3 (b1 b2 : Bool) (h : Heap) (l1 l2 : Addr) : Heap := (zq2 b1 b2 h l1 l2).push { cls := .type "tuple", data := .seq #[.ref h.objs.size, .ref (zq1 b1 h l1).objs.size] }
abbrev zq4 (b1 b2 : Bool) (h : Heap) (l1 l2 : Addr) : Heap := (zq3 b1 b2 h l1 l2).push { cls := .type "tuple", data := .seq #[.none, .none] }
abbrev zq5 (b1 b2 : Bool) (h : Heap) (l1 l2 : Addr) : Heap := (zq4 b1 b2 h l1 l2).push { cls := .type "zip", data := .fields #[.none, .bool false, .bool false, .ref (zq2 b1 b2 h l1 l2).objs.size, .ref (zq3 b1 b2 h l1 l2).objs.size] }
theorem IsSq.push {b : Bool} {h : Heap} {a : Addr} {xs : Array Value} (x : IsSq b h a xs) (o : Obj) : IsSq b (h.push o) a xs := by
  cases b
  · exact Heap.IsTuple.push (show h.IsTuple a xs from x) o
  · exact Heap.IsList.push (show h.IsList a xs from x) o
section
variable {prog : Program} {w : World} {A : Around} {E : Value → Shared → Prop} {s : Shared}
theorem py_iter {b : Bool} {l : Addr} {xs : Array Value} {Q : Value → Shared → Prop} (h : IsSq b s.heap l xs) (q : Q (.ref s.heap.objs.size) { s with heap := s.heap.push (itO b l) }) : wpAny (model prog w) A (pyIter (.ref l)) Q E s := by
  cases b
  · exact wpAny_pyIter_tuple (show s.heap.IsTuple l xs from h) q
  · exact wpAny_pyIter_list (show s.heap.IsList l xs from h) q
end
theorem mk_zp (b1 b2 : Bool) (l1 l2 : Addr) (xs ys : Array Value) : Meets (Builtin.«zip.__new__» ⟨[.type "zip", .ref l1, .ref l2], []⟩) (fun _ R s => IsSq b1 s.heap l1 xs ∧ IsSq b2 s.heap l2 ys ∧
      R (.ok (.ret (.ref (zq4 b1 b2 s.heap l1 l2).objs.size))) { s with heap := zq5 b1 b2 s.heap l1 l2 }) :=
  .of_wp fun prog w A R s h => by
    obtain ⟨hp, g, d, tk, os⟩ := s
    obtain ⟨hl1, hl2, h⟩ := h
    have sz := sub_zip
    have hA : IsSq b1 (Shared.heap ⟨hp, g, d, tk, os⟩) l1 xs := hl1
    have hB : IsSq b2 (Shared.heap ⟨hp.push (itO b1 l1), g, d, tk, os⟩) l2 ys := hl2.push _
    wp_walk using py_iter hA, py_iter hB
    exact ⟨_, rfl, h⟩
section
variable {prog : Program} {w : World} {A : Around} {E : Value → Shared → Prop} {s : Shared}
theorem it_new {b : Bool} {h : Heap} {it l : Addr} (e : h.get? it = some (itO b l)) : IsIt b h it l 0 := by
  cases b
  · exact ⟨_, e, rfl, rfl⟩
  · exact ⟨_, e, rfl, rfl⟩
theorem call_zp {b1 b2 : Bool} {l1 l2 : Addr} {xs ys : Array Value} {Q : Value → Shared → Prop} (hA : IsSq b1 s.heap l1 xs) (hB : IsSq b2 s.heap l2 ys)
    (h : ∀ g, IsZip g (s.heap.objs.size + 4) (s.heap.objs.size + 2) (s.heap.objs.size + 3) .none → IsPair g (s.heap.objs.size + 2) (.ref s.heap.objs.size) (.ref (s.heap.objs.size + 1)) →
      IsPair g (s.heap.objs.size + 3) .none .none → IsIt b1 g s.heap.objs.size l1 0 → IsIt b2 g (s.heap.objs.size + 1) l2 0 →
      (∀ c o, s.heap.get? c = some o → g.get? c = some o) → Q (.ref (s.heap.objs.size + 4)) { s with heap := g }) : wpAny (model prog w) A (call (.type "zip") [.ref l1, .ref l2]) Q E s := by
  refine callType_new F.called_zip (by decide) (F.typeCall_zip_2 _ _) (F.newCall_zip_2 _ _) (fun ob => F.args_object_init_3 ob _ _) F.entry_zip_new (mk_zp b1 b2 l1 l2 xs ys) ⟨hA, hB, ?_⟩
  have e1 : (zq1 b1 s.heap l1).objs.size = s.heap.objs.size + 1 := Heap.size_push ..
  have e2 : (zq2 b1 b2 s.heap l1 l2).objs.size = s.heap.objs.size + 2 := by rw [Heap.size_push, e1]
  have e3 : (zq3 b1 b2 s.heap l1 l2).objs.size = s.heap.objs.size + 3 := by rw [Heap.size_push, e2]
  have e4 : (zq4 b1 b2 s.heap l1 l2).objs.size = s.heap.objs.size + 4 := by rw [Heap.size_push, e3]
  have k5 : (zq5 b1 b2 s.heap l1 l2).get? (zq4 b1 b2 s.heap l1 l2).objs.size = some _ := Heap.get?_push_size _ rfl
  have k4 : (zq5 b1 b2 s.heap l1 l2).get? (zq3 b1 b2 s.heap l1 l2).objs.size = some _ := Heap.get?_push_of_some _ (Heap.get?_push_size _ rfl)
  have k3 : (zq5 b1 b2 s.heap l1 l2).get? (zq2 b1 b2 s.heap l1 l2).objs.size = some _ := Heap.get?_push_of_some _ (Heap.get?_push_of_some _ (Heap.get?_push_size _ rfl))
  have k2 : (zq5 b1 b2 s.heap l1 l2).get? (zq1 b1 s.heap l1).objs.size = some (itO b2 l2) := Heap.get?_push_of_some _ (Heap.get?_push_of_some _ (Heap.get?_push_of_some _ (Heap.get?_push_size _ rfl)))
  have k1 : (zq5 b1 b2 s.heap l1 l2).get? s.heap.objs.size = some (itO b1 l1) := Heap.get?_push_of_some _ (Heap.get?_push_of_some _ (Heap.get?_push_of_some _ (Heap.get?_push_of_some _ (Heap.get?_push_size _ rfl))))
  show _ ∧ _
  rw [e2, e3, e4] at k5
  rw [e1, e2] at k3
  rw [e3] at k4
  rw [e1] at k2
  rw [e4]
  exact ⟨⟨_, k5, rfl⟩, h _ k5 k3 k4 (it_new k1) (it_new k2) fun c o x =>
    Heap.get?_push_of_some _ (Heap.get?_push_of_some _ (Heap.get?_push_of_some _ (Heap.get?_push_of_some _ (Heap.get?_push_of_some _ x))))⟩
end
/-- zip of two, each a list or a tuple -/
def iZp (K : PySem.W.Frag) (ta : TA) : TI := fun σ H R => ta σ H fun vs H1 => ∃ (b1 b2 : Bool) (a b : Addr) (xs ys : List V), vs = [.ref a, .ref b] ∧ SqB b1 K H1 a xs ∧ SqB b2 K H1 b ys ∧ R (Izp b1 b2 K a b) H1
theorem pi_zp {X : Cx} {e e2 : Expr} {ta : TA} {p pos tpos : Pos} {elts : List Expr} {kk : Nat} (hg : Gl X "zip") (hm : X.mg "zip" = none) (ha : PA X [e, e2] ta)
    (hs : starEach [e, e2] X.env = (false, eval e X.env) :: starEach [e2] X.env) (hpl : (backTo pos (starEach [e2] X.env)).any (·.1) = false) :
    PI X (.Tuple elts kk tpos) (.Call (.Name "zip" p) [e, e2] [] pos) (iZp X.K ta) := by
  refine ⟨fun pins s σ H R I h => ?_⟩
  refine Call_ (ld_blt I hg hm PyProof.Rows.boot_zip (PyProof.Rows.callWith_type1 (thn (ha.run pos pins s σ H _ I h) fun us s1 ⟨vs, H1, I1, r1, q1⟩ => ?_) hs hpl))
  obtain ⟨b1, b2, a, b, xs, ys, ex, hqx, hqy, q⟩ := q1
  subst ex
  cases r1 with
  | cons r rr =>
    cases rr with
    | cons r' rr =>
      cases rr
      cases r
      cases r'
      have young : ∀ c, c ∈ [s1.heap.objs.size + 4, s1.heap.objs.size + 2, s1.heap.objs.size + 3, s1.heap.objs.size, s1.heap.objs.size + 1] → FpOk X pins H1 c := fun c hc => by
        have le : s1.heap.objs.size ≤ c := by
          simp only [List.mem_cons, List.not_mem_nil, or_false] at hc
          omega
        exact I1.fpOk le (I1.hok.fresh le)
      obtain ⟨us1, rv, p1⟩ := sq_at I1 hqx
      obtain ⟨us2, rv2, p2⟩ := sq_at I1 hqy
      refine call_zp p1 p2 fun g kz kti kto h1 h2 hk => wpAny_pyIter_zip kz ?_
      have I2 : Inv X pins σ H1 { s1 with heap := g } := I1.kept (t' := s1.toks) hk
      exact ⟨s1.heap.objs.size + 4, [s1.heap.objs.size + 4, s1.heap.objs.size + 2, s1.heap.objs.size + 3, s1.heap.objs.size, s1.heap.objs.size + 1], _, _, H1, rfl, I2, turn_zp (PySem.W.ktu_apart s1.heap.objs.size a b p1.lt p2.lt), ⟨kz, kti, ⟨_, _, kto⟩, h1, h2⟩, young, q⟩
end Rf
end
section
set_option Elab.async false
set_option linter.all false
set_option maxRecDepth 100000
set_option maxHeartbeats 2000000
/-! Rf, part F: what is walked. -/
namespace Rf
open PySem PySem.Spec L2

/-! ### enumerate of a tuple -/
theorem newEnumB {v : Value} {o : Obj} {Hb : Heap → Prop} (B : Begins v o Hb) :
    Meets (Builtin.«enumerate.__new__» ⟨[.type "enumerate", v], []⟩) (fun _ R s => Hb s.heap ∧
      R (.ok (.ret (.ref (s.heap.push o).objs.size))) { s with heap := (s.heap.push o).push { cls := .type "enumerate", data := .fields #[.none, .bool false, .ref s.heap.objs.size, rawInt 0, .none, .none] } }) :=
  .of_wp fun prg wd Ar Rr st hh => by
    obtain ⟨hpp, gg, dd, tkk, oss⟩ := st
    obtain ⟨hb1, hr1⟩ := hh
    have hsub := sub_enumerate
    have q1 : ∀ {A' : Around} {E : Value → Shared → Prop} {Q : Value → Shared → Prop}, Q (.ref hpp.objs.size) ⟨hpp.push o, gg, dd, tkk, oss⟩ → wpAny (model prg wd) A' (pyIter v) Q E ⟨hpp, gg, dd, tkk, oss⟩ :=
      fun qq => B.iter prg wd _ _ ⟨hpp, gg, dd, tkk, oss⟩ _ hb1 qq
    wp_walk using q1
    refine wpAny_stack_any fun stk => wpAny_pure ?_
    split
    · rename_i cc _ _ _ _ _
      cases (cc == Value.type "enumerate")
      · wp_walk using q1
        exact ⟨_, rfl, hr1⟩
      · wp_walk using q1
        exact ⟨_, rfl, hr1⟩
    · wp_walk using q1
      exact ⟨_, rfl, hr1⟩
theorem callEnumB {prg : Program} {wd : World} {Ar : Around} {E : Value → Shared → Prop} {s : Shared} {v : Value} {o : Obj} {Hb : Heap → Prop} {Q : Value → Shared → Prop} (B : Begins v o Hb) (h1 : Hb s.heap)
    (h : ∀ h', IsEnum h' (s.heap.objs.size + 1) s.heap.objs.size 0 .none → h'.get? s.heap.objs.size = some o → (∀ b o, s.heap.get? b = some o → h'.get? b = some o) → Q (.ref (s.heap.objs.size + 1)) { s with heap := h' }) :
    wpAny (model prg wd) Ar (call (.type "enumerate") [v]) Q E s := by
  refine callType_new F.called_enumerate (by decide) (F.typeCall_enumerate_1 _) (F.newCall_enumerate_1 _) (fun ob => F.args_object_init_2 ob _) F.entry_enumerate_new (newEnumB B) ⟨h1, ?_⟩
  have hz : (s.heap.push o).objs.size = s.heap.objs.size + 1 := Heap.size_push ..
  show _ ∧ _
  rw [hz]
  have he : IsEnum ((s.heap.push o).push { cls := .type "enumerate", data := .fields #[.none, .bool false, .ref s.heap.objs.size, rawInt 0, .none, .none] }) (s.heap.objs.size + 1) s.heap.objs.size 0 .none := by
    have z := Heap.get?_push_size (s.heap.push o) (o := { cls := .type "enumerate", data := .fields #[.none, .bool false, .ref s.heap.objs.size, rawInt 0, .none, .none] }) rfl
    rw [hz] at z
    exact z
  exact ⟨⟨_, he, rfl⟩, h _ he (Heap.get?_push_of_some _ (Heap.get?_push_size _ B.free)) fun b ob x => Heap.get?_push_of_some _ (Heap.get?_push_of_some _ x)⟩
/-- the tuple at a, each item in a new pair with its number -/
def IteT (K : PySem.W.Frag) (a : Addr) : It :=
  ⟨fun i H => ∃ (xs : List V) (x : V), SqT K H a xs ∧ xs[i]? = some x, fun i H v H' => ∃ T x, v = .ref T ∧ H T = none ∧ H' = upd H T (.tup [.int (i : Nat), x]) ∧ ∀ xs, SqT K H a xs → xs[i]? = some x, fun i H => ∃ xs : List V, SqT K H a xs ∧ xs.length ≤ i⟩
theorem turnET {P : Program} {w : World} {K : PySem.W.Frag} {elts : List Expr} {kk : Nat} {tpos : Pos} (a e it : Addr) :
    Turn P w K (.Tuple elts kk tpos) (IteT K a) [e, it] e (fun i h => (∃ old, IsEnum h e it ((i : Nat) : Int) old) ∧ h.IsTupleIter it a i ∧ e ≠ it ∧ a ≠ it ∧ a ≠ e) where
  mem := by simp
  obj := fun i h st b hb => by
    obtain ⟨⟨old, he⟩, ⟨o, ho, _, hd⟩, _⟩ := st
    rcases (show b = e ∨ b = it by simpa using hb) with z | z
    · subst z
      exact ⟨_, he, fun w y => nomatch y⟩
    · subst z
      exact ⟨o, ho, fun w y => by rw [hd] at y; cases y⟩
  keep := fun i h h' st k => by
    obtain ⟨⟨old, he⟩, hi, hne⟩ := st
    exact ⟨⟨old, k e (by simp) _ he⟩, hi.at fun o q => k it (by simp) o q, hne⟩
  item := by
    intro X hP hw hK hc i pins s σ H E I hf st hg
    subst hP hw hK
    obtain ⟨⟨old, he⟩, hit, hne, ha1, ha2⟩ := st
    obtain ⟨xs, x, hq, hx⟩ := hg
    obtain ⟨its, rv, p, _⟩ := I.tuple hq
    obtain ⟨u, hu, ru⟩ := rv.get hx
    have hel : e < s.heap.objs.size := Heap.lt_size he
    have hil : it < s.heap.objs.size := by obtain ⟨_, q, _⟩ := hit; exact Heap.lt_size q
    have hlen : i < its.toArray.size := by
      have := (List.getElem?_eq_some_iff.mp hu).1
      simpa using this
    refine wpAny_pyNext_enum_itemC (Draws.tuple (show X.A.in1.handled = none from I.ok.hd hc) it a ha1 its.toArray) he ⟨hit, p⟩ hlen hne (by simp [hne, Ne.symm ha2]) fun y h' tk hy ho hst hT hsz hk => ?_
    have ey : y = u := by
      have e1 : its.toArray[i]? = some u := by simpa using hu
      rw [e1] at hy
      exact (Option.some.inj hy).symm
    subst ey
    refine ⟨_, rfl, wpAny_letOwnedTupleGo_enum (s := { s with heap := h', toks := tk + 1 }) ho fun h'' he' sb => ?_⟩
    have hT2 : h''.get? s.heap.objs.size = some { cls := .type "tuple", data := .seq #[.int i tk, y] } := (sb.2 _ (Nat.ne_of_gt hel)).trans hT
    have new : ObjOk X.prog X.w (upd H s.heap.objs.size (.tup [.int (i : Nat), x])) h'' s.heap.objs.size (.tup [.int (i : Nat), x]) :=
      ⟨by show 2 ≤ sizeLine; decide, [.int i tk, y], .cons ⟨_, rfl⟩ (.cons ru .nil), ⟨_, hT2, rfl, _, rfl⟩⟩
    have I1 : Inv X pins σ (upd H s.heap.objs.size (.tup [.int (i : Nat), x])) { s with heap := h'', toks := tk + 1 } :=
      I.turnedNew (ch := [e, it]) (fun b ob hb q => (sb.2 b (fun z => hb (by simp [z]))).trans (hk b ob (fun z => hb (by simp [z])) (fun z => hb (by simp [z])) q)) hf (Nat.le_refl _) new
    refine ⟨.ref s.heap.objs.size, _, I1, rfl, ⟨_, x, rfl, I.hok.fresh (Nat.le_refl _), rfl, fun ys hy => by rw [I.tuple_inj hy hq]; exact hx⟩, ⟨⟨y, ?_⟩, hst.1.at fun o q => (sb.2 it (Ne.symm hne)).trans q, hne, ha1, ha2⟩, fun b hb => ?_⟩
    · rw [show ((i + 1 : Nat) : Int) = (i : Int) + 1 by omega]
      exact he'
    · have hb' : b < s.heap.objs.size := by
        rcases (show b = e ∨ b = it by simpa using hb) with z | z
        · rw [z]; exact hel
        · rw [z]; exact hil
      rw [upd_ne (Nat.ne_of_lt hb')]
      exact (hf b hb).1
  done := by
    intro X hP hw hK hc i pins s σ H E I hf st hg
    subst hP hw hK
    obtain ⟨⟨old, he⟩, hit, hne, ha1, ha2⟩ := st
    obtain ⟨xs, hq, hx⟩ := hg
    obtain ⟨its, rv, p, _⟩ := I.tuple hq
    obtain ⟨f0, f1, f2, f3, f4, f5⟩ := hf it (by simp)
    have hl := rv.length
    -- the iterator stands at or behind the end: its own end
    have hn : its.toArray[i]? = none := by simp; omega
    have hT : Shared.TypeIs s (.ref e) "enumerate" := ⟨_, he, rfl⟩
    unfold pyNext
    refine wpAny_bind (wpAny_attempt (wpAny_callSpecial?_slot (name := Str.ofString "__next__") hT F.slot_enumerate_next (wpAny_call_entry F.slot_enumerate_next hT F.entry_enumerate_next ?_ (F.args_enumerate_next_1 _))))
    show wpAny _ _ (field (.ref e) 2 >>= _) _ _ _
    refine wpAny_bind (wpAny_field he rfl (x := .ref it) rfl ?_)
    refine wpAny_bind (wpAny_nextOf_tuple_end (show X.A.in1.handled = none from I.ok.hd hc) hit p hn fun h' x hx' ⟨o, ho, hcl⟩ => ?_)
    refine wpAny_bind (wpAny_isInstance (T := "StopIteration") (b := true) ⟨o, ho, hcl⟩ isSubtype_stop ?_)
    exact wpAny_pure ⟨rfl, I.turned (t' := s.toks) (fun b o hb q => hx' b o hb q) f0 f1 f3 f4 f5⟩
  self := fun A i s Q E st h => by
    obtain ⟨⟨_, he⟩, _⟩ := st
    exact wpAny_pyIter_enum he h
def iEnumA (K : PySem.W.Frag) (ta : TA) : TI := fun σ H R => ta σ H fun vs H1 => ∃ a xs, vs = [.ref a] ∧ ((SqL K H1 a xs ∧ R (Ite K a) H1) ∨ (SqT K H1 a xs ∧ R (IteT K a) H1))
theorem pi_enumA {X : Cx} {e : Expr} {ta : TA} {p pos tpos : Pos} {elts : List Expr} {kk : Nat} (hg : Gl X "enumerate") (hm : X.mg "enumerate" = none) (ha : PA X [e] ta) (hs : starEach [e] X.env = [(false, eval e X.env)]) :
    PI X (.Tuple elts kk tpos) (.Call (.Name "enumerate" p) [e] [] pos) (iEnumA X.K ta) := by
  refine ⟨fun pins s σ H R I h => ?_⟩
  refine PyProof.Rows.Call_ (ld_blt I hg hm PyProof.Rows.boot_enumerate (PyProof.Rows.callWith_type1 (thn (ha.run pos pins s σ H _ I h) fun us s1 ⟨vs, H1, I1, r1, q1⟩ => ?_) hs rfl))
  obtain ⟨a, xs, rfl, q⟩ := q1
  cases r1 with
  | cons r rr =>
    cases rr
    cases r
    have fresh2 : ∀ b, b ∈ [s1.heap.objs.size + 1, s1.heap.objs.size] → FpOk X pins H1 b := fun b hb => by
      have hle : s1.heap.objs.size ≤ b := by
        rcases (show b = s1.heap.objs.size + 1 ∨ b = s1.heap.objs.size by simpa using hb) with z | z
        · rw [z]; exact Nat.le_add_right _ _
        · rw [z]; exact Nat.le_refl _
      exact I1.fpOk hle (I1.hok.fresh hle)
    rcases q with ⟨hq, q⟩ | ⟨hq, q⟩
    · obtain ⟨its, rv, p', _⟩ := I1.list hq
      refine call_enumerate_list p'.isList fun h' he hit hsz hk => wpAny_pyIter_enum he ?_
      exact ⟨s1.heap.objs.size + 1, _, _, _, H1, rfl, I1.kept (t' := s1.toks) hk, turn_enum a (s1.heap.objs.size + 1) s1.heap.objs.size, ⟨⟨.none, he⟩, hit, Nat.succ_ne_self _⟩, fresh2, q⟩
    · obtain ⟨its, rv, p', _⟩ := I1.tuple hq
      have hal : a < s1.heap.objs.size := by obtain ⟨o, e, _⟩ := id p'; exact Heap.lt_size e
      refine callEnumB (begins_tuple a its.toArray) p' fun h' he hit hk => wpAny_pyIter_enum he ?_
      exact ⟨s1.heap.objs.size + 1, _, _, _, H1, rfl, I1.kept (t' := s1.toks) hk, turnET a (s1.heap.objs.size + 1) s1.heap.objs.size, ⟨⟨.none, he⟩, ⟨_, hit, rfl, rfl⟩, Nat.succ_ne_self _, Nat.ne_of_lt hal, Nat.ne_of_lt (Nat.lt_succ_of_lt hal)⟩, fresh2, q⟩

section
variable {X : Cx} {W : WX} {XR : XRep}
/-! ### sources -/
def itsM (m : M D) : M (List D) := M.bind m fun d => M.lift (itemsD d)
theorem wk_lst {S T : Addr → Prop} {H : Hp} {a : Addr} {xs : List V} {ds : List D} (hq : ∀ (S' : Addr → Prop) (H' : Hp), (∀ a o, S a → H a = some o → S' a ∧ H' a = some o) → (∀ a o, T a → H a = some o → H' a = some o) → SqL X.K H' a xs)
    (hd : DnAll X.prog X.w X.K S H xs ds) : Wk X S T H (Itl X.K a) ds := fun S' H' h1 h2 => by
  have q := hq S' H' h1 h2
  have d := DnAll.mono h1 hd
  refine ⟨fun i hi => ⟨xs, xs[i]'(by rw [d.length]; exact hi), q, by simp⟩, ⟨xs, q, Nat.le_of_eq d.length⟩, fun i x H'' hi y => ?_⟩
  obtain ⟨e, y⟩ := y
  subst e
  refine ⟨fun _ _ z => z, fun S'' k1 _ => ?_⟩
  obtain ⟨c, e1, e2⟩ := d.get (y xs q)
  exact ⟨c, e1, Dn.mono (fun b o s e => ⟨k1 b s, e⟩) e2⟩
theorem wk_tup {S T : Addr → Prop} {H : Hp} {a : Addr} {xs : List V} {ds : List D} (hq : TrT X.K S H a xs) (hd : DnAll X.prog X.w X.K S H xs ds) : Wk X S T H (Itt X.K a) ds := fun S' H' h1 h2 => by
  have q := (hq.mono h1).sq
  have d := DnAll.mono h1 hd
  refine ⟨fun i hi => ⟨xs, xs[i]'(by rw [d.length]; exact hi), q, by simp⟩, ⟨xs, q, Nat.le_of_eq d.length⟩, fun i x H'' hi y => ?_⟩
  obtain ⟨e, y⟩ := y
  subst e
  refine ⟨fun _ _ z => z, fun S'' k1 _ => ?_⟩
  obtain ⟨c, e1, e2⟩ := d.get (y xs q)
  exact ⟨c, e1, Dn.mono (fun b o s e => ⟨k1 b s, e⟩) e2⟩
/-- a new pair -/
theorem dn_pair {S' S'' : Addr → Prop} {H' : Hp} {p : Addr} {x y : V} {d e : D} (hp : H' p = none) (k1 : ∀ a, S' a → S'' a) (k2 : ∀ a, H' a = none → S'' a) (hx : Dn X.prog X.w X.K S' H' x d) (hy : Dn X.prog X.w X.K S' H' y e) :
    Dn X.prog X.w X.K S'' (upd H' p (.tup [x, y])) (.ref p) (.tuple [d, e]) := by
  have g : ∀ b o, S' b → H' b = some o → S'' b ∧ upd H' p (.tup [x, y]) b = some o := fun b o s q => ⟨k1 b s, g_upd hp b o q⟩
  exact .tup (.inl ⟨k2 p hp, .inl upd_same⟩) (.cons (Dn.mono g hx) (.cons (Dn.mono g hy) .nil))
def enumD (ds : List D) : List D := (List.range ds.length).zipWith (fun i d => .tuple [.int (i : Nat), d]) ds
theorem enumD_len (ds : List D) : (enumD ds).length = ds.length := by simp [enumD]
theorem enumD_get (ds : List D) (i : Nat) (d : D) (h : ds[i]? = some d) : (enumD ds)[i]? = some (.tuple [.int (i : Nat), d]) := by
  have hi : i < ds.length := (List.getElem?_eq_some_iff.mp h).1
  unfold enumD
  rw [List.getElem?_zipWith, h, List.getElem?_range hi]
theorem wk_enumL {S T : Addr → Prop} {H : Hp} {a : Addr} {xs : List V} {ds : List D} (hq : ∀ (S' : Addr → Prop) (H' : Hp), (∀ a o, S a → H a = some o → S' a ∧ H' a = some o) → (∀ a o, T a → H a = some o → H' a = some o) → SqL X.K H' a xs)
    (hd : DnAll X.prog X.w X.K S H xs ds) : Wk X S T H (Ite X.K a) (enumD ds) := fun S' H' h1 h2 => by
  have q := hq S' H' h1 h2
  have d := DnAll.mono h1 hd
  rw [enumD_len]
  refine ⟨fun i hi => ⟨xs, xs[i]'(by rw [d.length]; exact hi), q, by simp⟩, ⟨xs, q, Nat.le_of_eq d.length⟩, fun i x H'' hi y => ?_⟩
  obtain ⟨p, z, rfl, hp, rfl, y⟩ := y
  refine ⟨g_upd hp, fun S'' k1 k2 => ?_⟩
  obtain ⟨c, e1, e2⟩ := d.get (y xs q)
  exact ⟨_, enumD_get ds i c e1, dn_pair hp k1 k2 (.int _) e2⟩
theorem wk_enumT {S T : Addr → Prop} {H : Hp} {a : Addr} {xs : List V} {ds : List D} (hq : TrT X.K S H a xs) (hd : DnAll X.prog X.w X.K S H xs ds) : Wk X S T H (IteT X.K a) (enumD ds) := fun S' H' h1 h2 => by
  have q := (hq.mono h1).sq
  have d := DnAll.mono h1 hd
  rw [enumD_len]
  refine ⟨fun i hi => ⟨xs, xs[i]'(by rw [d.length]; exact hi), q, by simp⟩, ⟨xs, q, Nat.le_of_eq d.length⟩, fun i x H'' hi y => ?_⟩
  obtain ⟨p, z, rfl, hp, rfl, y⟩ := y
  refine ⟨g_upd hp, fun S'' k1 k2 => ?_⟩
  obtain ⟨c, e1, e2⟩ := d.get (y xs q)
  exact ⟨_, enumD_get ds i c e1, dn_pair hp k1 k2 (.int _) e2⟩
def zipD (xs ys : List D) : List D := List.zipWith (fun x y => .tuple [x, y]) xs ys
/-- how a list or tuple stands that is walked -/
def Wl (X : Cx) (S T : Addr → Prop) (H : Hp) (a : Addr) (ds : List D) : Prop := ∃ xs, DnAll X.prog X.w X.K S H xs ds ∧
  ∀ (S' : Addr → Prop) (H' : Hp), (∀ a o, S a → H a = some o → S' a ∧ H' a = some o) → (∀ a o, T a → H a = some o → H' a = some o) → SqL X.K H' a xs
def Wt (X : Cx) (S : Addr → Prop) (H : Hp) (a : Addr) (ds : List D) : Prop := ∃ xs, DnAll X.prog X.w X.K S H xs ds ∧ TrT X.K S H a xs
theorem wk_zipL {S T : Addr → Prop} {H : Hp} {a b : Addr} {ds es : List D} (h : Wl X S T H a ds) (h' : Wl X S T H b es) : Wk X S T H (Itz X.K a b) (zipD ds es) := fun S' H' h1 h2 => by
  obtain ⟨xs, hd, hq⟩ := h
  obtain ⟨ys, hd', hq'⟩ := h'
  have q := hq S' H' h1 h2
  have q' := hq' S' H' h1 h2
  have d := DnAll.mono h1 hd
  have d' := DnAll.mono h1 hd'
  have l1 := d.length
  have l2 := d'.length
  have e : (zipD ds es).length = min ds.length es.length := by simp [zipD]
  rw [e]
  refine ⟨fun i hi => ⟨xs, ys, xs[i]'(by omega), ys[i]'(by omega), q, q', by simp, by simp⟩, ⟨xs, ys, q, q', by omega⟩, fun i x H'' hi y => ?_⟩
  obtain ⟨p, z, z', rfl, hp, rfl, y, y'⟩ := y
  refine ⟨g_upd hp, fun S'' k1 k2 => ?_⟩
  obtain ⟨c, e1, e2⟩ := d.get (y xs q)
  obtain ⟨c', e1', e2'⟩ := d'.get (y' ys q')
  exact ⟨.tuple [c, c'], by simp [zipD, List.getElem?_zipWith, e1, e1'], dn_pair hp k1 k2 e2 e2'⟩
theorem wk_zipT {S T : Addr → Prop} {H : Hp} {a b : Addr} {ds es : List D} (h : Wt X S H a ds) (h' : Wt X S H b es) : Wk X S T H (RZ.ItzT X.K a b) (zipD ds es) := fun S' H' h1 h2 => by
  obtain ⟨xs, hd, hq⟩ := h
  obtain ⟨ys, hd', hq'⟩ := h'
  have q := (hq.mono h1).sq
  have q' := (hq'.mono h1).sq
  have d := DnAll.mono h1 hd
  have d' := DnAll.mono h1 hd'
  have l1 := d.length
  have l2 := d'.length
  have e : (zipD ds es).length = min ds.length es.length := by simp [zipD]
  rw [e]
  refine ⟨fun i hi => ⟨xs, ys, xs[i]'(by omega), ys[i]'(by omega), q, q', by simp, by simp⟩, ⟨xs, ys, q, q', by omega⟩, fun i x H'' hi y => ?_⟩
  obtain ⟨p, z, z', rfl, hp, rfl, y, y'⟩ := y
  refine ⟨g_upd hp, fun S'' k1 k2 => ?_⟩
  obtain ⟨c, e1, e2⟩ := d.get (y xs q)
  obtain ⟨c', e1', e2'⟩ := d'.get (y' ys q')
  exact ⟨.tuple [c, c'], by simp [zipD, List.getElem?_zipWith, e1, e1'], dn_pair hp k1 k2 e2 e2'⟩
theorem wl_of {u : Bool} {F : Fr} {ρ : Env} {σ : Sg} {H : Hp} {v : V} {ds : List D} (h : Rg X.prog X.w X.K u (Al F ρ σ) H v (.list ds)) : ∃ a, v = .ref a ∧ Wl X (Al F ρ σ) (TSo u F ρ σ) H a ds ∧ ∃ xs, SqL X.K H a xs := by
  have dn : ∀ {v : V}, Dn X.prog X.w X.K (Al F ρ σ) H v (.list ds) → ∃ a, v = .ref a ∧ Wl X (Al F ρ σ) (TSo u F ρ σ) H a ds ∧ ∃ xs, SqL X.K H a xs := fun h => by
    cases h with
    | lst t q => exact ⟨_, rfl, ⟨_, q, fun S' H' h1 _ => (t.mono h1).sq⟩, _, t.sq⟩
  cases u with
  | false => exact dn h
  | true =>
    rcases h with h | ⟨a, rfl, xs, sq, q⟩
    · exact dn h
    · refine ⟨a, rfl, ⟨xs, q, fun S' H' _ h2 => ?_⟩, xs, sq⟩
      rcases sq with (e | ⟨o, e⟩) | e
      · exact .inl (.inl (h2 _ _ (.inl rfl) e))
      · exact .inl (.inr ⟨o, h2 _ _ (.inl rfl) e⟩)
      · exact .inr e
theorem wt_of {u : Bool} {F : Fr} {ρ : Env} {σ : Sg} {H : Hp} {v : V} {ds : List D} (h : Rg X.prog X.w X.K u (Al F ρ σ) H v (.tuple ds)) : ∃ a, v = .ref a ∧ Wt X (Al F ρ σ) H a ds := by
  obtain ⟨h, _⟩ := tup_of h.bd
  cases h with
  | tup t q => exact ⟨_, rfl, _, q, t⟩
theorem Wl.wk {S T : Addr → Prop} {H : Hp} {a : Addr} {ds : List D} (h : Wl X S T H a ds) : Wk X S T H (Itl X.K a) ds := let ⟨_, hd, hq⟩ := h; wk_lst hq hd
theorem Wt.wk {S T : Addr → Prop} {H : Hp} {a : Addr} {ds : List D} (h : Wt X S H a ds) : Wk X S T H (Itt X.K a) ds := let ⟨_, hd, hq⟩ := h; wk_tup hq hd
theorem Wl.sq {S T : Addr → Prop} {H : Hp} {a : Addr} {ds : List D} (h : Wl X S T H a ds) : ∃ xs, SqL X.K H a xs := let ⟨_, hd, hq⟩ := h; ⟨_, hq S H (fun _ _ a b => ⟨a, b⟩) fun _ _ _ b => b⟩
theorem Wt.sq {S : Addr → Prop} {H : Hp} {a : Addr} {ds : List D} (h : Wt X S H a ds) : ∃ xs, SqT X.K H a xs := let ⟨_, hd, hq⟩ := h; ⟨_, hq.sq⟩
/-- a list or tuple -/
theorem i_val {tg e : Expr} {u t : Bool} {m : M D} (h : PE X e (TG X W XR u t m)) : PI X tg e (ti (X := X) W XR u t (itsM m)) := by
  refine ⟨fun p s σ H R I ⟨F, ρ, Rl, z⟩ => ?_⟩
  refine (PI.or (pi_list h) (pi_tup h)).run p s σ H R I ?_
  -- which of the two it is hangs on the datum
  cases e1 : m ρ with
  | bad => 
    unfold itsM M.bind at z
    rw [e1] at z
    exact z.elim
  | ex c ds ρ1 =>
    unfold itsM M.bind at z
    rw [e1] at z
    exact .inl ⟨F, ρ, Rl, by rw [e1]; exact z⟩
  | ok d ρ1 =>
    unfold itsM M.bind at z
    rw [e1] at z
    obtain ⟨ds, e2, k⟩ := satl (o := itemsD d) (ρ := ρ1) z
    cases d with
    | list es =>
      cases e2
      refine .inl ⟨F, ρ, Rl, ?_⟩
      rw [e1]
      intro v H1 R1 K1 D1
      obtain ⟨a, rfl, w, sq⟩ := wl_of D1
      exact ⟨a, rfl, sq, k _ H1 R1 K1 w.wk⟩
    | tuple es =>
      cases e2
      refine .inr ⟨F, ρ, Rl, ?_⟩
      rw [e1]
      intro v H1 R1 K1 D1
      obtain ⟨a, rfl, w⟩ := wt_of D1
      exact ⟨a, rfl, w.sq, k _ H1 R1 K1 w.wk⟩
    | _ => cases e2
/-- a name's list or tuple, which is not changed while it is walked -/
def wvM (i : Nat) : M D := fun ρ => match ρ i with
  | .bo d => .ok d ρ
  | _ => vrM i ρ
theorem i_var {tg e : Expr} {i : Nat} (h : PE X e (tVar i)) : PI X tg e (ti (X := X) W XR false false (itsM (wvM i))) := by
  refine ⟨fun p s σ H R I ⟨F, ρ, Rl, z⟩ => ?_⟩
  by_cases hb : ∃ d, ρ i = .bo d
  · obtain ⟨d, hb⟩ := hb
    obtain ⟨v, h1, h2⟩ := Rl.bo i d hb
    have e0 : wvM i ρ = .ok d ρ := by unfold wvM; rw [hb]
    unfold itsM M.bind at z
    rw [e0] at z
    obtain ⟨ds, e2, k⟩ := satl (o := itemsD d) (ρ := ρ) z
    cases d with
    | list es =>
      cases e2
      rcases h2 with h2 | ⟨a, rfl, ⟨xs, sq, q⟩, q3, q4⟩
      · obtain ⟨a, rfl, w, sq⟩ := wl_of (u := false) h2
        exact (pi_list h).run p s σ H R I ⟨_, h1, a, rfl, sq, k _ H Rl .refl w.wk⟩
      · refine (pi_list h).run p s σ H R I ⟨_, h1, a, rfl, ⟨xs, sq⟩, k _ H Rl .refl (Wl.wk ⟨xs, q, fun S' H' _ h2 => ?_⟩)⟩
        rcases sq with (e | ⟨o, e⟩) | e
        · exact .inl (.inl (h2 _ _ (.inr ⟨q3, q4.1⟩) e))
        · exact .inl (.inr ⟨o, h2 _ _ (.inr ⟨q3, q4.1⟩) e⟩)
        · exact .inr e
    | tuple es =>
      cases e2
      have h2' : Dn X.prog X.w X.K (Al F ρ σ) H v (.tuple ds) := by
        rcases h2 with h2 | ⟨a, rfl, q, _⟩
        · exact h2
        · exact q.elim
      obtain ⟨a, rfl, w⟩ := wt_of (u := false) h2'
      exact (pi_tup h).run p s σ H R I ⟨_, h1, a, rfl, w.sq, k _ H Rl .refl w.wk⟩
    | _ => cases e2
  · have e0 : wvM i ρ = vrM i ρ := by
      unfold wvM
      split
      · rename_i d e; exact absurd ⟨d, e⟩ hb
      · rfl
    refine (i_val (W := W) (XR := XR) (e_vr h)).run p s σ H R I ⟨F, ρ, Rl, ?_⟩
    unfold itsM M.bind at z ⊢
    rw [e0] at z
    exact z
/-! ### ranges -/
def rng62 (i : Int) : Bool := decide (-(2 ^ 62) ≤ i) && decide (i < 2 ^ 62)
theorem rng62_of {i : Int} (h : rng62 i = true) : -(2 ^ 62) ≤ i ∧ i < 2 ^ 62 := by
  unfold rng62 at h
  rw [Bool.and_eq_true] at h
  exact ⟨of_decide_eq_true h.1, of_decide_eq_true h.2⟩
def rngL (lo : Int) (n : Nat) : List D := (List.range n).map fun k => .int (lo + (k : Nat))
def rng1D : List D → Option (List D)
  | [.int j] => if rng62 j then some (rngL 0 j.toNat) else none
  | _ => none
def rng2D : List D → Option (List D)
  | [.int i, .int j] => if rng62 i && rng62 j then some (rngL i (j - i).toNat) else none
  | _ => none
def overM (f : List D → Option (List D)) (m : M (List D)) : M (List D) := M.bind m fun ds => M.lift (f ds)
theorem wk_rng {S T : Addr → Prop} {H : Hp} {lo : Int} {n : Nat} : Wk X S T H (Itr lo n) (rngL lo n) := fun S' H' _ _ => by
  have e : (rngL lo n).length = n := by simp [rngL]
  rw [e]
  refine ⟨fun i hi => hi, Nat.le_refl _, fun i x H'' hi y => ?_⟩
  obtain ⟨e, rfl⟩ := y
  subst e
  exact ⟨fun _ _ z => z, fun S'' _ _ => ⟨.int (lo + i), by simp [rngL, hi], .int _⟩⟩
theorem ints1 {S : Addr → Prop} {H : Hp} {vs : List V} {i : Int} (h : DnAll X.prog X.w X.K S H vs [.int i]) : vs = [.int i] := by
  cases h with | cons a b => cases a; cases b; rfl
theorem ints2 {S : Addr → Prop} {H : Hp} {vs : List V} {i j : Int} (h : DnAll X.prog X.w X.K S H vs [.int i, .int j]) : vs = [.int i, .int j] := by
  cases h with | cons a b => cases a; cases b with | cons a b => cases a; cases b; rfl
theorem i_rng1 {tg a : Expr} {t : Bool} {m : M (List D)} {p pos : Pos} (hg : Gl X "range") (hm : X.mg "range" = none) (ha : PA X [a] (TAs X W XR t m)) (hs : starEach [a] X.env = [(false, eval a X.env)]) :
    PI X tg (.Call (.Name "range" p) [a] [] pos) (ti (X := X) W XR false t (overM rng1D m)) := PIi (pi_range1 hg hm ha hs) fun σ H R ⟨F, ρ, Rl, z⟩ =>
  ⟨F, ρ, Rl, Out.sat_mono (sat2 z) (fun ds ρ1 k vs H1 R1 K1 D1 => by
    obtain ⟨es, e1, k⟩ := satl k
    unfold rng1D at e1
    split at e1
    · split at e1
      · rename_i hz
        cases e1
        exact ⟨_, ints1 D1, (rng62_of hz).1, (rng62_of hz).2, k _ H1 R1 K1 wk_rng⟩
      · cases e1
    · cases e1) fun _ _ _ h => h⟩
theorem i_rng2 {tg a b : Expr} {t : Bool} {m : M (List D)} {p pos : Pos} (hg : Gl X "range") (hm : X.mg "range" = none) (ha : PA X [a, b] (TAs X W XR t m)) (hs : starEach [a, b] X.env = [(false, eval a X.env), (false, eval b X.env)]) (hs2 : starEach [b] X.env = [(false, eval b X.env)]) :
    PI X tg (.Call (.Name "range" p) [a, b] [] pos) (ti (X := X) W XR false t (overM rng2D m)) := PIi (pi_range2 hg hm ha hs hs2) fun σ H R ⟨F, ρ, Rl, z⟩ =>
  ⟨F, ρ, Rl, Out.sat_mono (sat2 z) (fun ds ρ1 k vs H1 R1 K1 D1 => by
    obtain ⟨es, e1, k⟩ := satl k
    unfold rng2D at e1
    split at e1
    · split at e1
      · rename_i hz
        rw [Bool.and_eq_true] at hz
        cases e1
        exact ⟨_, _, ints2 D1, ⟨(rng62_of hz.1).1, (rng62_of hz.1).2, (rng62_of hz.2).1, (rng62_of hz.2).2⟩, k _ H1 R1 K1 wk_rng⟩
      · cases e1
    · cases e1) fun _ _ _ h => h⟩
/-! ### enumerate, zip -/
def enumDs : List D → Option (List D)
  | [d] => (itemsD d).map enumD
  | _ => none
def zipDs : List D → Option (List D)
  | [x, y] => match itemsD x, itemsD y with
    | some xs, some ys => some (zipD xs ys)
    | _, _ => none
  | _ => none
theorem i_enum {e : Expr} {t : Bool} {m : M (List D)} {p pos tpos : Pos} {elts : List Expr} {kk : Nat} (hg : Gl X "enumerate") (hm : X.mg "enumerate" = none) (ha : PA X [e] (TAs X W XR t m)) (hs : starEach [e] X.env = [(false, eval e X.env)]) :
    PI X (.Tuple elts kk tpos) (.Call (.Name "enumerate" p) [e] [] pos) (ti (X := X) W XR false t (overM enumDs m)) := PIi (pi_enumA hg hm ha hs) fun σ H R ⟨F, ρ, Rl, z⟩ =>
  ⟨F, ρ, Rl, Out.sat_mono (sat2 z) (fun ds ρ1 k vs H1 R1 K1 D1 => by
    obtain ⟨es, e1, k⟩ := satl k
    unfold enumDs at e1
    split at e1
    · cases D1 with
      | cons q r =>
        cases r
        rename_i d v
        cases d with
        | list xs =>
          cases e1
          obtain ⟨a, rfl, ⟨ys, w1, w2⟩, sq⟩ := wl_of (u := false) (X := X) q
          exact ⟨a, ys, rfl, .inl ⟨w2 _ H1 (fun _ _ x y => ⟨x, y⟩) fun _ _ _ y => y, k _ H1 R1 K1 (wk_enumL w2 w1)⟩⟩
        | tuple xs =>
          cases e1
          obtain ⟨a, rfl, ⟨ys, w1, w2⟩⟩ := wt_of (u := false) (X := X) q
          exact ⟨a, ys, rfl, .inr ⟨w2.sq, k _ H1 R1 K1 (wk_enumT w2 w1)⟩⟩
        | _ => cases e1
    · cases e1) fun _ _ _ h => h⟩
/-- how one that is walked stands: a list (true) or a tuple -/
def WB (b : Bool) (X : Cx) (S T : Addr → Prop) (H : Hp) (a : Addr) (ds : List D) : Prop := ∃ xs, DnAll X.prog X.w X.K S H xs ds ∧
  ∀ (S' : Addr → Prop) (H' : Hp), (∀ a o, S a → H a = some o → S' a ∧ H' a = some o) → (∀ a o, T a → H a = some o → H' a = some o) → SqB b X.K H' a xs
theorem WB.sq {b : Bool} {S T : Addr → Prop} {H : Hp} {a : Addr} {ds : List D} (h : WB b X S T H a ds) : ∃ xs, SqB b X.K H a xs := let ⟨_, _, hq⟩ := h; ⟨_, hq S H (fun _ _ a b => ⟨a, b⟩) fun _ _ _ b => b⟩
theorem wb_of {F : Fr} {ρ : Env} {σ : Sg} {H : Hp} {v : V} {d : D} {ds : List D} (h : Dn X.prog X.w X.K (Al F ρ σ) H v d) (e : itemsD d = some ds) : ∃ (b : Bool) (a : Addr), v = .ref a ∧ WB b X (Al F ρ σ) (TSo false F ρ σ) H a ds := by
  cases d with
  | list xs =>
    cases e
    obtain ⟨a, rfl, w, _⟩ := wl_of (u := false) (X := X) h
    exact ⟨true, a, rfl, w⟩
  | tuple xs =>
    cases e
    obtain ⟨a, rfl, xs, w, t⟩ := wt_of (u := false) (X := X) h
    exact ⟨false, a, rfl, xs, w, fun S' H' h1 _ => (t.mono h1).sq⟩
  | _ => cases e
theorem wk_zp {b1 b2 : Bool} {S T : Addr → Prop} {H : Hp} {a b : Addr} {ds es : List D} (h : WB b1 X S T H a ds) (h' : WB b2 X S T H b es) : Wk X S T H (Izp b1 b2 X.K a b) (zipD ds es) := fun S' H' h1 h2 => by
  obtain ⟨xs, hd, hq⟩ := h
  obtain ⟨ys, hd', hq'⟩ := h'
  have q := hq S' H' h1 h2
  have q' := hq' S' H' h1 h2
  have d := DnAll.mono h1 hd
  have d' := DnAll.mono h1 hd'
  have l1 := d.length
  have l2 := d'.length
  have e : (zipD ds es).length = min ds.length es.length := by simp [zipD]
  rw [e]
  refine ⟨fun i hi => ⟨xs, ys, xs[i]'(by omega), ys[i]'(by omega), q, q', by simp, by simp⟩, ⟨xs, ys, q, q', by omega⟩, fun i x H'' hi y => ?_⟩
  obtain ⟨p, z, z', rfl, hp, rfl, y, y'⟩ := y
  refine ⟨g_upd hp, fun S'' k1 k2 => ?_⟩
  obtain ⟨c, e1, e2⟩ := d.get (y xs q)
  obtain ⟨c', e1', e2'⟩ := d'.get (y' ys q')
  exact ⟨.tuple [c, c'], by simp [zipD, List.getElem?_zipWith, e1, e1'], dn_pair hp k1 k2 e2 e2'⟩
theorem i_zip {e e2 : Expr} {t : Bool} {m : M (List D)} {p pos tpos : Pos} {elts : List Expr} {kk : Nat} (hg : Gl X "zip") (hm : X.mg "zip" = none) (ha : PA X [e, e2] (TAs X W XR t m)) (hs : starEach [e, e2] X.env = (false, eval e X.env) :: starEach [e2] X.env) (hpl : (backTo pos (starEach [e2] X.env)).any (·.1) = false) :
    PI X (.Tuple elts kk tpos) (.Call (.Name "zip" p) [e, e2] [] pos) (ti (X := X) W XR false t (overM zipDs m)) := PIi (pi_zp hg hm ha hs hpl) fun σ H R ⟨F, ρ, Rl, z⟩ =>
  ⟨F, ρ, Rl, Out.sat_mono (sat2 z) (fun ds ρ1 k vs H1 R1 K1 D1 => by
    obtain ⟨es, e1, k⟩ := satl k
    unfold zipDs at e1
    split at e1
    · split at e1
      · rename_i x y xs ys q1 q2
        cases e1
        cases D1 with
        | cons q r => cases r with
          | cons q' r =>
            cases r
            obtain ⟨b1, a, rfl, w⟩ := wb_of q q1
            obtain ⟨b2, b, rfl, w'⟩ := wb_of q' q2
            obtain ⟨us, sq⟩ := w.sq
            obtain ⟨us', sq'⟩ := w'.sq
            exact ⟨b1, b2, a, b, us, us', rfl, sq, sq', k _ H1 R1 K1 (wk_zp w w')⟩
      · cases e1
    · cases e1) fun _ _ _ h => h⟩
end
end Rf
end
section
set_option Elab.async false
set_option linter.all false
set_option maxRecDepth 100000
set_option maxHeartbeats 2000000
/-! Rf, part G: list comprehensions of any number of clauses. -/
namespace Rf
open PySem PySem.Spec L2

abbrev tests (env : PySem.Env) (ifs : List Expr) : Sem Bool := forIn ifs true fun c r => if r = true then do let ok ← isTrue c env (eval c env); pure (ForInStep.yield ok) else pure (ForInStep.yield r)
theorem turn_mid {elt tg iter tg' iter' : Expr} {ifs ifs' : List Expr} {gens : List Comprehension} {scope : Scope} {pos : Pos} {dp : Nat} {it acc : Value} {env : PySem.Env} (hg : gens[dp]? = some ⟨tg, iter, ifs, 0⟩) (hg' : gens[dp + 1]? = some ⟨tg', iter', ifs', 0⟩) :
    compTurn (.ListComp elt gens scope pos) dp it acc env = (do
      standAt iter.pos
      match ← pyNext it with
      | none => pure (.done .next)
      | some v => do
        letOwnedTupleGo tg it v
        assign tg env v
        let r ← tests env ifs
        if r = true then do
          let x ← eval iter' env
          standAt iter'.pos
          let x ← foldedSetIterable iter' env x
          let _ ← runOwn (.compStart (.ListComp elt gens scope pos) (dp + 1) (← holding [x] (pyIter x)) acc env) env
          again (.compLoop (.ListComp elt gens scope pos) dp it acc env)
        else again (.compLoop (.ListComp elt gens scope pos) dp it acc env)) := by
  unfold compTurn
  simp only [hg, hg']
  rfl
theorem turn_last {elt tg iter : Expr} {ifs : List Expr} {gens : List Comprehension} {scope : Scope} {pos : Pos} {dp : Nat} {it acc : Value} {env : PySem.Env} (hg : gens[dp]? = some ⟨tg, iter, ifs, 0⟩) (hg' : gens[dp + 1]? = none) :
    compTurn (.ListComp elt gens scope pos) dp it acc env = (do
      standAt iter.pos
      match ← pyNext it with
      | none => pure (.done .next)
      | some v => do
        letOwnedTupleGo tg it v
        assign tg env v
        let r ← tests env ifs
        if r = true then do
          (do let _ ← call (.builtin "list.append") [acc, ← eval elt env])
          again (.compLoop (.ListComp elt gens scope pos) dp it acc env)
        else again (.compLoop (.ListComp elt gens scope pos) dp it acc env)) := by
  unfold compTurn
  simp only [hg, hg']
  rfl
section
variable {prg : Program} {wd : World} {Ar : Around} {Rr : Result → Shared → Prop} {sh : Shared} {elt tg iter : Expr} {ifs : List Expr} {gens : List Comprehension} {scope : Scope} {pos : Pos} {dp : Nat} {it acc : Value} {env : PySem.Env}
/-- a clause's loop, told by its turn -/
theorem loop_mid {tg' iter' : Expr} {ifs' : List Expr} (hg : gens[dp]? = some ⟨tg, iter, ifs, 0⟩) (hg' : gens[dp + 1]? = some ⟨tg', iter', ifs', 0⟩) (hf : ∀ x, foldedSetIterable iter' env x = pure x) (Iv : Nat → Shared → Prop)
    (turn : ∀ n s, Iv n s → wpAny (model prg wd) Ar (pyNext it) (fun r s1 => match r with
      | none => Rr (.ok .next) s1
      | some v => wpAny (model prg wd) Ar (letOwnedTupleGo tg it v) (fun _ s2 => wpAny (model prg wd) Ar (assign tg env v) (fun _ s3 => wpAny (model prg wd) Ar (tests env ifs) (fun ok s4 =>
          if ok = true then wpAny (model prg wd) Ar (eval iter' env) (fun x s5 => wpAny (model prg wd) Ar (pyIter x) (fun jt s6 =>
              codeAny (model prg wd) Ar (.compStart (.ListComp elt gens scope pos) (dp + 1) jt acc env) (fun r s' => match r with
                | .ok _ => ∃ m, m < n ∧ Iv m s'
                | .error _ => False) s6) (fun _ _ => False) s5) (fun _ _ => False) s4
          else ∃ m, m < n ∧ Iv m s4) (fun _ _ => False) s3) (fun _ _ => False) s2) (fun _ _ => False) s1) (fun _ _ => False) s)
    (n : Nat) (h : Iv n sh) : codeAny (model prg wd) Ar (.compLoop (.ListComp elt gens scope pos) dp it acc env) Rr sh := by
  refine codeAny_loop rfl Iv (fun n s hI => ?_) n h
  show wpAny _ Ar ((compTurn (.ListComp elt gens scope pos) dp it acc env).onRaise (fun x => do noteFrame x env; theTreesLotGoes x)) _ _ s
  refine wpAny_noted ?_
  rw [turn_mid hg hg']
  refine wpAny_bind (wpAny_standAt (wpAny_bind (wpAny_mono (turn n s hI) (fun r s1 h1 => ?_) fun _ _ z => z.elim)))
  cases r with
  | none => exact wpAny_pure h1
  | some v =>
    refine wpAny_bind (wpAny_mono h1 (fun _ s2 h2 => wpAny_bind (wpAny_mono h2 (fun _ s3 h3 => wpAny_bind (wpAny_mono h3 (fun ok s4 h4 => ?_) fun _ _ z => z.elim)) fun _ _ z => z.elim)) fun _ _ z => z.elim)
    cases ok with
    | false => exact wpAny_pure ⟨rfl, h4⟩
    | true =>
      rw [if_pos rfl] at h4
      show wpAny _ Ar (eval iter' env >>= _) _ _ s4
      refine wpAny_bind (wpAny_mono h4 (fun x s5 h5 => ?_) fun _ _ z => z.elim)
      refine wpAny_bind (wpAny_standAt (wpAny_bind (wpAny_of_eq (hf x) (wpAny_bind (wpAny_holding (wpAny_mono h5 (fun jt s6 h6 => ?_) fun _ _ z => z.elim))))))
      refine wpAny_bind (wpAny_runOwn ?_)
      rw [Around.mark_none]
      refine codeAny_mono h6 fun r s' hr => ?_
      cases r with
      | ok f => first | exact wpAny_pure ⟨rfl, hr⟩ | exact wpAny_bind (wpAny_pure (wpAny_pure ⟨rfl, hr⟩))
      | error e => exact hr.elim
theorem loop_last (hg : gens[dp]? = some ⟨tg, iter, ifs, 0⟩) (hg' : gens[dp + 1]? = none) (Iv : Nat → Shared → Prop)
    (turn : ∀ n s, Iv n s → wpAny (model prg wd) Ar (pyNext it) (fun r s1 => match r with
      | none => Rr (.ok .next) s1
      | some v => wpAny (model prg wd) Ar (letOwnedTupleGo tg it v) (fun _ s2 => wpAny (model prg wd) Ar (assign tg env v) (fun _ s3 => wpAny (model prg wd) Ar (tests env ifs) (fun ok s4 =>
          if ok = true then wpAny (model prg wd) Ar (eval elt env) (fun x s5 => wpAny (model prg wd) Ar (call (.builtin "list.append") [acc, x]) (fun _ s6 => ∃ m, m < n ∧ Iv m s6) (fun _ _ => False) s5) (fun _ _ => False) s4
          else ∃ m, m < n ∧ Iv m s4) (fun _ _ => False) s3) (fun _ _ => False) s2) (fun _ _ => False) s1) (fun _ _ => False) s)
    (n : Nat) (h : Iv n sh) : codeAny (model prg wd) Ar (.compLoop (.ListComp elt gens scope pos) dp it acc env) Rr sh := by
  refine codeAny_loop rfl Iv (fun n s hI => ?_) n h
  show wpAny _ Ar ((compTurn (.ListComp elt gens scope pos) dp it acc env).onRaise (fun x => do noteFrame x env; theTreesLotGoes x)) _ _ s
  refine wpAny_noted ?_
  rw [turn_last hg hg']
  refine wpAny_bind (wpAny_standAt (wpAny_bind (wpAny_mono (turn n s hI) (fun r s1 h1 => ?_) fun _ _ z => z.elim)))
  cases r with
  | none => exact wpAny_pure h1
  | some v =>
    refine wpAny_bind (wpAny_mono h1 (fun _ s2 h2 => wpAny_bind (wpAny_mono h2 (fun _ s3 h3 => wpAny_bind (wpAny_mono h3 (fun ok s4 h4 => ?_) fun _ _ z => z.elim)) fun _ _ z => z.elim)) fun _ _ z => z.elim)
    cases ok with
    | false => exact wpAny_pure ⟨rfl, h4⟩
    | true =>
      rw [if_pos rfl] at h4
      exact wpAny_bind (wpAny_bind (wpAny_mono h4 (fun x s5 h5 => wpAny_bind (wpAny_mono h5 (fun _ s6 h6 => wpAny_pure (wpAny_pure ⟨rfl, h6⟩)) fun _ _ z => z.elim)) fun _ _ z => z.elim))
/-- a later clause begins -/
theorem start_at (hg : gens[dp]? = some ⟨tg, iter, ifs, 0⟩) (h0 : codeAny (model prg wd) Ar (.compLoop (.ListComp elt gens scope pos) dp it acc env) Rr sh)
    (h : wpAny (model prg wd) Ar (pyIter it) (fun jt s' => codeAny (model prg wd) Ar (.compLoop (.ListComp elt gens scope pos) dp jt acc env) Rr s') (fun _ _ => False) sh) :
    codeAny (model prg wd) Ar (.compStart (.ListComp elt gens scope pos) dp it acc env) Rr sh := by
  refine codeAny_of_tree ?_
  show wpAny _ _ ((compStart (.ListComp elt gens scope pos) dp it acc env).onRaise (fun x => do noteFrame x env; standAt theWindowsPlace)) _ _ sh
  refine wpAny_notedAt ?_
  have e : compStart (.ListComp elt gens scope pos) dp it acc env = (do
      if (← ask).params.followText "comprehension-iter-twice" then return ← again (.compLoop (.ListComp elt gens scope pos) dp it acc env)
      rule "comprehension.iter-twice"
      standAt iter.pos
      again (.compLoop (.ListComp elt gens scope pos) dp (← pyIter it) acc env)) := by
    have c : (clausesOf (.ListComp elt gens scope pos))[dp]? = some ⟨tg, iter, ifs, 0⟩ := hg
    unfold compStart
    rw [c]
    rfl
  rw [e]
  show wpAny _ _ (ask >>= _) _ _ sh
  refine wpAny_bind (wpAny_askSetting (wpAny_ite ?_))
  split
  · first
      | exact wpAny_bind (wpAny_pure (wpAny_pure (And.intro rfl h0)))
      | exact wpAny_pure (And.intro rfl h0)
  · exact wpAny_bind (wpAny_rule (wpAny_bind (wpAny_standAt (wpAny_bind (wpAny_mono h (fun jt s' h' => wpAny_pure (And.intro rfl h')) fun _ _ x => x.elim)))))
end

/-! ### a clause's body, by judgement -/
abbrev Bdy := (Shared → Prop) → Shared → Prop
/-- the loop of a clause runs, told by its turn, its body told by bd -/
def LoopBy (prg : Program) (wd : World) (Ar : Around) (cx : Expr) (dp : Nat) (acc : Value) (env : PySem.Env) (tg : Expr) (ifs : List Expr) (bd : Bdy) : Prop :=
  ∀ (it : Value) (Rr : Result → Shared → Prop) (sh : Shared) (Iv : Nat → Shared → Prop) (turn : ∀ n s, Iv n s → wpAny (model prg wd) Ar (pyNext it) (fun r s1 => match r with
      | none => Rr (.ok .next) s1
      | some v => wpAny (model prg wd) Ar (letOwnedTupleGo tg it v) (fun _ s2 => wpAny (model prg wd) Ar (assign tg env v) (fun _ s3 => wpAny (model prg wd) Ar (tests env ifs) (fun ok s4 =>
          if ok = true then bd (fun s' => ∃ m, m < n ∧ Iv m s') s4 else ∃ m, m < n ∧ Iv m s4) (fun _ _ => False) s3) (fun _ _ => False) s2) (fun _ _ => False) s1) (fun _ _ => False) s)
    (n : Nat) (h : Iv n sh), codeAny (model prg wd) Ar (.compLoop cx dp it acc env) Rr sh
def bdLast (prg : Program) (wd : World) (Ar : Around) (elt : Expr) (acc : Value) (env : PySem.Env) : Bdy := fun P s4 =>
  wpAny (model prg wd) Ar (eval elt env) (fun x s5 => wpAny (model prg wd) Ar (call (.builtin "list.append") [acc, x]) (fun _ s6 => P s6) (fun _ _ => False) s5) (fun _ _ => False) s4
def bdMid (prg : Program) (wd : World) (Ar : Around) (cx : Expr) (dp : Nat) (iter' : Expr) (acc : Value) (env : PySem.Env) : Bdy := fun P s4 =>
  wpAny (model prg wd) Ar (eval iter' env) (fun x s5 => wpAny (model prg wd) Ar (pyIter x) (fun jt s6 => codeAny (model prg wd) Ar (.compStart cx dp jt acc env) (fun r s' => match r with
                | .ok _ => P s'
                | .error _ => False) s6) (fun _ _ => False) s5) (fun _ _ => False) s4
theorem by_last {prg : Program} {wd : World} {Ar : Around} {elt tg iter : Expr} {ifs : List Expr} {gens : List Comprehension} {scope : Scope} {pos : Pos} {dp : Nat} {acc : Value} {env : PySem.Env} (hg : gens[dp]? = some ⟨tg, iter, ifs, 0⟩) (hg' : gens[dp + 1]? = none) :
    LoopBy prg wd Ar (.ListComp elt gens scope pos) dp acc env tg ifs (bdLast prg wd Ar elt acc env) := fun it Rr sh Iv turn n h => loop_last hg hg' Iv turn n h
theorem by_mid {prg : Program} {wd : World} {Ar : Around} {elt tg iter tg' iter' : Expr} {ifs ifs' : List Expr} {gens : List Comprehension} {scope : Scope} {pos : Pos} {dp : Nat} {acc : Value} {env : PySem.Env} (hg : gens[dp]? = some ⟨tg, iter, ifs, 0⟩) (hg' : gens[dp + 1]? = some ⟨tg', iter', ifs', 0⟩) (hf : ∀ x, foldedSetIterable iter' env x = pure x) :
    LoopBy prg wd Ar (.ListComp elt gens scope pos) dp acc env tg ifs (bdMid prg wd Ar (.ListComp elt gens scope pos) (dp + 1) iter' acc env) := fun it Rr sh Iv turn n h => loop_mid hg hg' hf Iv turn n h
/-- a body's reading -/
abbrev TB := Sg → Hp → (Hp → Prop) → Prop
structure PB (X : Cx) (vs : List Nat) (bd : Bdy) (t : TB) : Prop where
  run : ∀ (pins : List (Addr × Obj)) (s : Shared) (σ : Sg) (H : Hp) (Nx : Hp → Prop) (P : Shared → Prop), Inv X pins σ H s → t σ H Nx → (∀ s' H', Inv X pins (wipe σ vs) H' s' → Nx H' → P s') → bd P s
def tEl (te : TE) (Dl : Addr) : TB := fun σ H Nx => te σ H fun y H1 => ∃ acc, H1 Dl = some (.lst acc) ∧ acc.length < sizeLine ∧ Nx (upd H1 Dl (.lst (acc ++ [y])))
/-- a turn of a loop over J -/
def tTurn (J : It) (g : L2.TG) (tt : TT) (tb : TB) (vs : List Nat) (σ : Sg) (i : Nat) (H : Hp) (Nx : Hp → Prop) : Prop :=
  J.go i H ∧ ∀ x H', J.yld i H x H' → g x (wipe σ vs) H' fun σ2 H2 => wipe σ2 vs = wipe σ vs ∧ tt σ2 H2 fun b H3 => if b = true then tb σ2 H3 Nx else Nx H3
def tLoop (J : It) (g : L2.TG) (tt : TT) (tb : TB) (vs : List Nat) (σ : Sg) (H1 : Hp) (Q : Hp → Prop) : Prop := ∃ W : Nat → Nat → Hp → Prop, (∃ m, W 0 m H1) ∧ ∀ i m H, W i m H →
  (J.stop i H ∧ Q H) ∨ ∃ Nx : Hp → Prop, (∀ H', Nx H' → ∃ m', m' < m ∧ W (i + 1) m' H') ∧ tTurn J g tt tb vs σ i H Nx
def tCl (wi : TI) (g : L2.TG) (tt : TT) (tb : TB) (vs : List Nat) : TB := fun σ H Nx => wi σ H fun J H1 => tLoop J g tt tb vs σ H1 Nx
theorem wipe_wipe {σ : Sg} {us vs : List Nat} (h : ∀ i ∈ us, i ∈ vs) (j : Nat) (v : V) (e : (wipe σ vs)[j]? = some (some v)) : (wipe (wipe σ us) vs)[j]? = some (some v) := by
  obtain ⟨e1, e2⟩ := wipe_some e
  rw [wipe_out e2, wipe_out fun z => e2 (h j z)]
  exact e1
section
variable {X : Cx} {tg iter : Expr} {ifs : List Expr} {wi : TI} {g : L2.TG} {tt : TT} {tb : TB} {vs us : List Nat} {bd : Bdy} {cx : Expr} {dp : Nat} {acc : Value}
/-- the loop of a clause, from an iterator that has come: behind it the slots of vs are forgotten -/
theorem loop_run (hc : X.calm = true) (hx : X.xe = fun _ _ => False) (L : LoopBy X.prog X.w X.A cx dp acc X.env tg ifs bd) (hbm : ∀ (P P' : Shared → Prop) s, (∀ s, P s → P' s) → bd P s → bd P' s) (hg : PG X tg g) (ht : PTs X ifs tt) (hb : PB X vs bd tb) (hu : ∀ i ∈ vs, i ∈ us)
    {pins : List (Addr × Obj)} {s : Shared} {σ : Sg} {H : Hp} {it : Addr} {fp : List Addr} {tn : Nat → Heap → Prop} {J : It} {Q : Hp → Prop} {Rr : Result → Shared → Prop} (I : Inv X pins σ H s) (T : Turn X.prog X.w X.K tg J fp it tn) (st : tn 0 s.heap)
    (f : ∀ b ∈ fp, FpOk X pins H b) (q : tLoop J g tt tb us σ H Q) (hR : ∀ s' H', Inv X pins (wipe σ us) H' s' → Q H' → Rr (.ok .next) s') :
    codeAny (model X.prog X.w) X.A (.compLoop cx dp (.ref it) acc X.env) Rr s := by
  obtain ⟨W, ⟨m0, w0⟩, turn⟩ := q
  have stat : ∀ {H' : Hp}, (∀ b ∈ fp, H' b = none) → ∀ b ∈ fp, FpOk X pins H' b := fun hn b hb => ⟨hn b hb, (f b hb).2⟩
  have go := L (.ref it) Rr s (fun n s' => ∃ i H', Inv X pins (wipe σ us) H' s' ∧ tn i s'.heap ∧ (∀ b ∈ fp, H' b = none) ∧ W i n H') ?_ m0 ⟨0, H, I.weak (wipe_length _ _) fun j v e => (wipe_some e).1, st, fun b hb => (f b hb).1, w0⟩
  · exact go
  rintro n s5 ⟨i, H5, I5, st5, n5, w5⟩
  rcases turn i n H5 w5 with ⟨stop, qq⟩ | ⟨Nx, hNx, goes, step⟩
  · refine thnF (T.done X rfl rfl rfl hc i pins s5 _ H5 (fun _ _ => False) I5 (stat n5) st5 stop) fun r s6 ⟨hr, I6⟩ => ?_
    subst hr
    exact hR s6 H5 I6 qq
  · refine thnF (T.item X rfl rfl rfl hc i pins s5 _ H5 (fun _ _ => False) I5 (stat n5) st5 goes) fun r s6 ⟨u, hr, h6⟩ => ?_
    subst hr
    refine thnF h6 fun _ s7 ⟨x, H7, I7, r7, y7, st7, n7⟩ => ?_
    have I7' := I7.pinned (stat n7) (T.obj _ _ st7)
    have pgr := hg.run _ s7 _ H7 x u _ I7' r7 (step x H7 y7)
    rw [hx] at pgr
    refine thnF pgr fun _ s8 ⟨σ8, H8, I8, hw8, q8⟩ => ?_
    have ptr := ht.run _ s8 σ8 H8 _ I8 q8
    rw [hx] at ptr
    refine thnF ptr fun b s9 ⟨H9, I9, q9⟩ => ?_
    have fin : ∀ {σ9 : Sg} {s' : Shared} {H' : Hp}, Inv X (pins ++ pinsAt fp s7.heap) σ9 H' s' → (wipe σ us).length = σ9.length → (∀ (j : Nat) v, (wipe σ us)[j]? = some (some v) → σ9[j]? = some (some v)) → Nx H' →
        ∃ m, m < n ∧ ∃ i H', Inv X pins (wipe σ us) H' s' ∧ tn i s'.heap ∧ (∀ b ∈ fp, H' b = none) ∧ W i m H' := fun {σ9 s' H'} I' hl hk nx => by
      obtain ⟨m', hm, w'⟩ := hNx H' nx
      have pin' : ∀ b ∈ fp, ∀ o, s7.heap.get? b = some o → s'.heap.get? b = some o ∧ H' b = none := fun b hb o e =>
        have z := I'.pin (b, o) (List.mem_append_right _ (List.mem_append_right _ (mem_pinsAt hb e)))
        ⟨z.1, z.2.1⟩
      refine ⟨m', hm, i + 1, H', I'.unpinned.weak hl hk, T.keep _ _ _ st7 fun b hb o e => (pin' b hb o e).1, fun b hb => ?_, w'⟩
      obtain ⟨o, e, _⟩ := T.obj _ _ st7 b hb
      exact (pin' b hb o e).2
    have hl8 : (wipe σ us).length = σ8.length := by rw [← hw8, wipe_length]
    have hk8 : ∀ (j : Nat) v, (wipe σ us)[j]? = some (some v) → σ8[j]? = some (some v) ∧ j ∉ us := fun j v e => by
      rw [← hw8] at e
      exact wipe_some e
    cases b with
    | false => exact fin I9 hl8 (fun j v e => (hk8 j v e).1) q9
    | true =>
      refine hb.run _ s9 σ8 H9 Nx _ I9 q9 fun s' H' I' nx => fin I' (hl8.trans (wipe_length σ8 vs).symm) (fun j v e => ?_) nx
      obtain ⟨e1, e2⟩ := hk8 j v e
      rw [wipe_out fun z => e2 (hu j z)]
      exact e1
theorem pb_last {elt : Expr} {te : TE} {Dl : Addr} (hx : X.xe = fun _ _ => False) (he : PE X elt te) : PB X [] (bdLast X.prog X.w X.A elt (.ref Dl) X.env) (tEl te Dl) :=
  ⟨fun pins s σ H Nx P I h k => by
    have r := he.run _ s σ H _ I h
    rw [hx] at r
    refine thnF r fun z s1 ⟨yv, H1, I1, r1, ac, hD, hz, nx⟩ => ?_
    exact app_ok I1 hD hz r1 fun s2 I2 => k s2 _ I2 nx⟩
theorem pb_mid {elt : Expr} {gens : List Comprehension} {scope : Scope} {pos : Pos} (hc : X.calm = true) (hx : X.xe = fun _ _ => False) (hgd : gens[dp]? = some ⟨tg, iter, ifs, 0⟩) (hi : PI X tg iter wi)
    (L : LoopBy X.prog X.w X.A (.ListComp elt gens scope pos) dp acc X.env tg ifs bd) (hbm : ∀ (P P' : Shared → Prop) s, (∀ s, P s → P' s) → bd P s → bd P' s) (hg : PG X tg g) (ht : PTs X ifs tt) (hb : PB X vs bd tb) (hu : ∀ i ∈ vs, i ∈ us) :
    PB X us (bdMid X.prog X.w X.A (.ListComp elt gens scope pos) dp iter acc X.env) (tCl wi g tt tb us) := ⟨fun pins s σ H Nx P I h k => by
  have r := hi.run pins s σ H _ I h
  rw [hx] at r
  refine thnF r fun xv s1 h1 => thnF h1 fun itv s2 ⟨it, fp, tn, J, H2, e, I2, T, st2, f2, q⟩ => ?_
  subst e
  have lp : codeAny (model X.prog X.w) X.A (.compLoop (.ListComp elt gens scope pos) dp (.ref it) acc X.env) (fun r s' => match r with
      | .ok _ => P s'
      | .error _ => False) s2 := loop_run hc hx L hbm hg ht hb hu I2 T st2 f2 q k
  exact start_at hgd lp (T.self X.A 0 _ _ _ st2 lp)⟩
end
theorem bdLast_mono {prg : Program} {wd : World} {Ar : Around} {elt : Expr} {acc : Value} {env : PySem.Env} (P P' : Shared → Prop) (s : Shared) (h : ∀ s, P s → P' s) (b : bdLast prg wd Ar elt acc env P s) : bdLast prg wd Ar elt acc env P' s :=
  thnF b fun _ _ b => thnF b fun _ _ z => h _ z
theorem bdMid_mono {prg : Program} {wd : World} {Ar : Around} {cx : Expr} {dp : Nat} {iter : Expr} {acc : Value} {env : PySem.Env} (P P' : Shared → Prop) (s : Shared) (h : ∀ s, P s → P' s) (b : bdMid prg wd Ar cx dp iter acc env P s) : bdMid prg wd Ar cx dp iter acc env P' s :=
  thnF b fun _ _ b => thnF b fun _ _ b => codeAny_mono b fun r _ z => by
    cases r with
    | ok f => exact h _ z
    | error e => exact z.elim

/-! ### the whole comprehension -/
/-- every block context of X -/
abbrev AllBlk (X : Cx) (scope : Scope) (P : Cx → Prop) : Prop := ∀ (s : Shared) (H : Hp) (C : Addr) (cl : List (Str × Addr)) (fp : List Addr), P (X.blk s H scope (compEnvC scope cl C X.env) fp)
def tLcN (wi : TI) (g : L2.TG) (tt : TT) (tb : Addr → TB) (vs : List Nat) : TE := fun σ H Q => wi σ H fun J H1 => ∀ Dl, H1 Dl = none → tLoop J g tt (tb Dl) vs σ (upd H1 Dl (.lst [])) (Q (.ref Dl))
section
variable {X : Cx} {elt tg iter : Expr} {ifs : List Expr} {rest : List Comprehension} {scope : Scope} {own : List (Str × Nat)} {wi : TI} {g : L2.TG} {tt : TT} {tb : Addr → TB} {vs : List Nat}
theorem lcn_core {pins : List (Addr × Obj)} {s : Shared} {σ : Sg} {H : Hp} {Q : VK} {pos pos' : Pos} {use : Option (Value → Sem Unit)} {Qf : Value → Shared → Prop} {bd : Cx → Addr → Bdy}
    (hc : X.calm = true) (hN : X.N.Nodup) (I : Inv X pins σ H s) (hi : PI X tg iter wi) (ok : BlkOk X.N X.env.scope scope own) (hs : ∀ x, foldedSetIterable iter X.env x = pure x)
    (hg : AllBlk X scope fun Y => PG Y tg g) (ht : AllBlk X scope fun Y => PTs Y ifs tt) (hb : AllBlk X scope fun Y => ∀ Dl, PB Y vs (bd Y Dl) (tb Dl))
    (hL : AllBlk X scope fun Y => ∀ Dl, LoopBy Y.prog Y.w Y.A (.ListComp elt (⟨tg, iter, ifs, 0⟩ :: rest) scope pos) 0 (.ref Dl) Y.env tg ifs (bd Y Dl)) (hbm : ∀ Y Dl (P P' : Shared → Prop) s, (∀ s, P s → P' s) → bd Y Dl P s → bd Y Dl P' s)
    (hv : ∀ i ∈ vs, i ∈ own.map (·.2)) (h : tLcN wi g tt tb (own.map (·.2)) σ H Q)
    (hRR : ∀ Dl C s' m H', Inv X pins σ H' s' → Q (.ref Dl) H' → s'.heap.Ns C m → FpOk X pins H' C → compPost (model X.prog X.w) X.A X.xe use Qf (.ref Dl) C (.ok .next) s') :
    wpAny (model X.prog X.w) X.A (comprehension (.ListComp elt (⟨tg, iter, ifs, 0⟩ :: rest) scope pos) scope X.env pos' (newList []) false (eval iter X.env) use) Qf X.xe s := by
  have hfree : ∀ y ∈ scope.names, y.2 = .free → ∃ c, X.env.cells.lookup y.1 = some c := fun y hy e => (ok.free y hy e).elim (fun k => I.ok.has _ (.inl k)) fun k => I.ok.has _ (.inr k)
  refine wpAny_comprehension_free (use := use) rfl hs (closure_ok hfree) ok.kind (fun y hy e => by rw [ok.uniq y hy, e]) (thn (hi.run pins s σ H _ I h) fun xv s1 hx => thn hx fun itv s2 h2 => ?_)
  obtain ⟨it, fp, tn, J, H2, e, I2, T, st2, f2, q⟩ := h2
  subst e
  refine wpAny_newObj_type (newEnv_comp ?_) (by show 0 ≤ sizeLine; decide)
  generalize hD : s2.heap.objs.size = Dl
  have hDn : H2 Dl = none := I2.hok.fresh (Nat.le_of_eq hD)
  have q := q Dl hDn
  generalize hs3 : ({ s2 with heap := s2.heap.push { cls := .type "list", data := .seq ([] : List Value).toArray } } : Shared) = s3
  have h3 : s3.heap = s2.heap.push { cls := .type "list", data := .seq ([] : List Value).toArray } := by rw [← hs3]
  have I3 : Inv X pins σ (upd H2 Dl (.lst [])) s3 := by
    rw [← hs3]
    refine I2.laid (t' := s2.toks) (fun b o e => Heap.get?_push_of_some _ e) (Nat.le_of_eq hD) ⟨Nat.zero_le _, [], 0, .nil, ?_⟩
    subst hD
    exact Heap.get?_push_size _ rfl
  have f3 : ∀ b ∈ fp, FpOk X pins (upd H2 Dl (.lst [])) b ∧ b < s3.heap.objs.size := fun b hb => by
    obtain ⟨ob, eb, _⟩ := T.obj _ _ st2 b hb
    have hlt := Heap.lt_size eb
    refine ⟨⟨?_, (f2 b hb).2⟩, by rw [h3, Heap.size_push]; exact Nat.lt_succ_of_lt hlt⟩
    rw [upd_ne (by subst hD; exact Nat.ne_of_lt hlt)]
    exact (f2 b hb).1
  have st3 : tn 0 s3.heap := T.keep _ _ _ st2 fun b _ o e => by rw [h3]; exact Heap.get?_push_of_some _ e
  have I4 := block_start I3 ok hN f3
  generalize hH3 : upd H2 Dl (.lst []) = H3 at I3 I4 f3 q
  have pg := hg s3 H3 s3.heap.objs.size (cellsFrom (s3.heap.objs.size + 1) scope.names (cloFrom X.env.cells scope.names [])) fp
  have pt := ht s3 H3 s3.heap.objs.size (cellsFrom (s3.heap.objs.size + 1) scope.names (cloFrom X.env.cells scope.names [])) fp
  have pb := hb s3 H3 s3.heap.objs.size (cellsFrom (s3.heap.objs.size + 1) scope.names (cloFrom X.env.cells scope.names [])) fp Dl
  have pl := hL s3 H3 s3.heap.objs.size (cellsFrom (s3.heap.objs.size + 1) scope.names (cloFrom X.env.cells scope.names [])) fp Dl
  show codeAny _ _ (.compStart (.ListComp elt (⟨tg, iter, ifs, 0⟩ :: rest) scope pos) 0 (.ref it) (.ref Dl) (compEnvC scope (cellsFrom (s3.heap.objs.size + 1) scope.names (cloFrom X.env.cells scope.names [])) s3.heap.objs.size X.env)) (compPost (model X.prog X.w) X.A X.xe use Qf (.ref Dl) s3.heap.objs.size) { s3 with heap := pushCells (s3.heap.push { cls := .type "dict", data := .dict #[] }) scope.names }
  generalize hce : compEnvC scope (cellsFrom (s3.heap.objs.size + 1) scope.names (cloFrom X.env.cells scope.names [])) s3.heap.objs.size X.env = ce at I4 pg pt pb pl ⊢
  have cL : ce.locals = s3.heap.objs.size := by subst hce; rfl
  generalize hs4 : ({ s3 with heap := pushCells (s3.heap.push { cls := .type "dict", data := .dict #[] }) scope.names } : Shared) = s4 at I4 ⊢
  have st4 : tn 0 s4.heap := T.keep _ _ _ st3 fun b _ o e => by rw [← hs4]; exact pushCells_keeps _ _ _ _ (Heap.get?_push_of_some _ e)
  have f4 : ∀ b ∈ fp, FpOk (X.blk s3 H3 scope ce fp) [] H3 b := fun b hb =>
    ⟨(f3 b hb).1.1, (I4.ok.exf b hb).1, I4.ok.exfs b hb, .inl hb, fun x c e => (I4.ok.exf b hb).2 x c e, fun p hp => absurd (show p ∈ ([] : List (Addr × Obj)) ++ [] from hp) (by simp)⟩
  have lp : codeAny (model X.prog X.w) X.A (.compLoop (.ListComp elt (⟨tg, iter, ifs, 0⟩ :: rest) scope pos) 0 (.ref it) (.ref Dl) ce) (compPost (model X.prog X.w) X.A X.xe use Qf (.ref Dl) s3.heap.objs.size) s4 := by
    have q2 : tLoop J g tt (tb Dl) (own.map (·.2)) (wipe σ (own.map (·.2))) H3 (Q (.ref Dl)) := by
      have e : ∀ vs : List Nat, wipe (wipe σ vs) vs = wipe σ vs := fun vs => by
        apply List.ext_getElem?
        intro j
        by_cases hj : j ∈ vs
        · have w : ∀ (ρ : Sg) (us : List Nat), j ∈ us → j < ρ.length → (wipe ρ us)[j]? = some none := fun ρ us => by
            induction us with
            | nil => intro h _; cases h
            | cons u us ih =>
              intro h hl
              show ((wipe ρ us).set u none)[j]? = _
              by_cases hu : u = j
              · subst hu
                rw [List.getElem?_set_self (by rw [wipe_length]; exact hl)]
              · rw [List.getElem?_set_ne hu]
                exact ih ((List.mem_cons.mp h).resolve_left fun z => hu z.symm) hl
          by_cases hl : j < σ.length
          · rw [w _ _ hj (by rw [wipe_length]; exact hl), w _ _ hj hl]
          · rw [List.getElem?_eq_none (by simp only [wipe_length]; omega), List.getElem?_eq_none (by rw [wipe_length]; omega)]
        · rw [wipe_out hj]
      unfold tLoop tTurn at q ⊢
      simp only [e]
      exact q
    refine loop_run (X := X.blk s3 H3 scope ce fp) hc rfl pl (hbm _ _) pg pt pb hv I4 T st4 f4 q2 fun s6 H5 I6 qq => ?_
    have I7 : Inv X pins σ H5 s6 := I3.call' (ch := fp) I6.os I6.base I6.hok I6.bare fun b hb => ⟨(f3 b hb).1.2.2.2.1, (f3 b hb).1.2.1, (f3 b hb).1.2.2.2.2.1, (f3 b hb).1.2.2.2.2.2⟩
    have nC : H5 s3.heap.objs.size = none := by
      have z : H5 ce.locals = none := I6.free
      rw [cL] at z
      exact z
    obtain ⟨m, hn, _⟩ := I6.loc
    have hn : s6.heap.Ns ce.locals m := hn
    rw [cL] at hn
    exact hRR Dl s3.heap.objs.size s6 m H5 I7 qq hn (I3.fpOk (Nat.le_refl _) nC)
  exact codeAny_compStart_list lp (T.self X.A 0 _ _ _ st4 lp)
/-- as a value -/
theorem pe_lcn {pos : Pos} {bd : Cx → Addr → Bdy} (hc : X.calm = true) (hN : X.N.Nodup) (hi : PI X tg iter wi) (ok : BlkOk X.N X.env.scope scope own) (hs : ∀ x, foldedSetIterable iter X.env x = pure x)
    (hg : AllBlk X scope fun Y => PG Y tg g) (ht : AllBlk X scope fun Y => PTs Y ifs tt) (hb : AllBlk X scope fun Y => ∀ Dl, PB Y vs (bd Y Dl) (tb Dl))
    (hL : AllBlk X scope fun Y => ∀ Dl, LoopBy Y.prog Y.w Y.A (.ListComp elt (⟨tg, iter, ifs, 0⟩ :: rest) scope pos) 0 (.ref Dl) Y.env tg ifs (bd Y Dl)) (hbm : ∀ Y Dl (P P' : Shared → Prop) s, (∀ s, P s → P' s) → bd Y Dl P s → bd Y Dl P' s)
    (hv : ∀ i ∈ vs, i ∈ own.map (·.2)) : PE X (.ListComp elt (⟨tg, iter, ifs, 0⟩ :: rest) scope pos) (tLcN wi g tt tb (own.map (·.2))) := ⟨fun pins s σ H Q I h => by
  rw [eval_ListComp]
  refine lcn_core hc hN I hi ok hs hg ht hb hL hbm hv h fun Dl C s' m H' I' q hn ⟨f0, f1, f2, f3, f4, f5⟩ => ⟨m, hn, fun h'' sb => ?_⟩
  exact ⟨.ref Dl, H', I'.turned (t' := s'.toks) (fun b o hb e => (sb.2 b hb).trans e) f0 f1 f3 f4 f5, rfl, q⟩⟩
/-- a name gets it -/
theorem ps_lcn {i : Nat} {y : Str} {py : Pos} {pos spos : Pos} {bd : Cx → Addr → Bdy} (hc : X.calm = true) (hN : X.N.Nodup) (hy : X.N[i]? = some y) (hyl : X.env.scope.names.lookup y = some .local)
    (hsw : swapsWith (.ListComp elt (⟨tg, iter, ifs, 0⟩ :: rest) scope pos) (some (.Name y py)) spos.line X.env = pure true) (hi : PI X tg iter wi) (ok : BlkOk X.N X.env.scope scope own) (hs : ∀ x, foldedSetIterable iter X.env x = pure x)
    (hg : AllBlk X scope fun Y => PG Y tg g) (ht : AllBlk X scope fun Y => PTs Y ifs tt) (hb : AllBlk X scope fun Y => ∀ Dl, PB Y vs (bd Y Dl) (tb Dl))
    (hL : AllBlk X scope fun Y => ∀ Dl, LoopBy Y.prog Y.w Y.A (.ListComp elt (⟨tg, iter, ifs, 0⟩ :: rest) scope pos) 0 (.ref Dl) Y.env tg ifs (bd Y Dl)) (hbm : ∀ Y Dl (P P' : Shared → Prop) s, (∀ s, P s → P' s) → bd Y Dl P s → bd Y Dl P' s)
    (hv : ∀ i ∈ vs, i ∈ own.map (·.2)) : PS X (.Assign [.Name y py] (.ListComp elt (⟨tg, iter, ifs, 0⟩ :: rest) scope pos) spos) (tAsg (tLcN wi g tt tb (own.map (·.2))) (gName i)) := ⟨fun pins s σ H Dn I h => by
  rw [exec_Assign_Name_used _ _ _ _ hsw]
  refine wpAny_bind (wpAny_standAt (wpAny_bind ?_))
  show wpAny _ X.A (do let _ ← comprehension (.ListComp elt (⟨tg, iter, ifs, 0⟩ :: rest) scope pos) scope X.env (firstIterPos (⟨tg, iter, ifs, 0⟩ :: rest) pos) (newList []) false (eval iter X.env) (some (assign (.Name y py) X.env))) _ _ s
  have h : tLcN wi g tt tb (own.map (·.2)) σ H (fun x H1 => gName i x σ H1 Dn.nx) := h
  refine wpAny_bind (thn (lcn_core (Qf := fun _ s' => SP X pins Dn .next s') hc hN I hi ok hs hg ht hb hL hbm hv h fun Dl C s' m H' I' q hn ⟨f0, f1, f2, f3, f4, f5⟩ => ?_) fun _ s' hq => wpAny_pure (wpAny_pure hq))
  show wpAny _ _ (assign (.Name y py) X.env (.ref Dl)) _ _ _
  refine wpAny_assign_Name (store_ok2 (v := V.ref Dl) I' hN hy (.inl hyl) rfl (fun s2 I2 ⟨a, sb, ha⟩ => ?_) (.inr hyl))
  have haC : C ≠ a := ha.elim (fun z => by rw [z]; exact f1) fun z e => f4 y a z e.symm
  exact ⟨m, hn.sameBut sb haC, fun h3 sb3 => ⟨_, H', I2.turned (t' := s2.toks) (fun b o hb e => (sb3.2 b hb).trans e) f0 f1 f3 f4 f5, q⟩⟩⟩
end
end Rf
end
section
set_option Elab.async false
set_option linter.all false
set_option maxRecDepth 100000
set_option maxHeartbeats 2000000
/-! Rf, part H: what list comprehensions compute. -/
namespace Rf
open PySem PySem.Spec L2
def wipeE (ρ : Env) (js : List Nat) : Env := fun j => bif js.contains j then .un else ρ j
def restE (ρ0 : Env) (js : List Nat) (ρ : Env) : Env := fun j => bif js.contains j then ρ0 j else ρ j
def nonM (ρ : Env) (js : List Nat) : Bool := js.all fun j => !(ρ j).isM
theorem con_in {js : List Nat} {j : Nat} (h : j ∈ js) : js.contains j = true := List.contains_iff_mem.mpr h
theorem con_out {js : List Nat} {j : Nat} (h : j ∉ js) : js.contains j = false := by
  cases e : js.contains j with
  | false => rfl
  | true => exact absurd (List.contains_iff_mem.mp e) h
section
variable {ρ ρ0 : Env} {js : List Nat} {j : Nat}
theorem wipeE_in (h : j ∈ js) : wipeE ρ js j = .un := by unfold wipeE; rw [con_in h]; rfl
theorem wipeE_out (h : j ∉ js) : wipeE ρ js j = ρ j := by unfold wipeE; rw [con_out h]; rfl
theorem restE_in (h : j ∈ js) : restE ρ0 js ρ j = ρ0 j := by unfold restE; rw [con_in h]; rfl
theorem restE_out (h : j ∉ js) : restE ρ0 js ρ j = ρ j := by unfold restE; rw [con_out h]; rfl
theorem nonM_of (h : nonM ρ js = true) (hj : j ∈ js) : (ρ j).isM = false := by
  have z := List.all_eq_true.mp h j hj
  simpa using z
end
section
variable {P : Program} {w : World} {K : PySem.W.Frag} {F : Fr} {ρ ρ' ρ3 : Env} {σ σ2 : Sg} {H H' H3 : Hp} {js : List Nat} {t u : Bool} {Dl : Addr}
theorem mut_wipe (hn : nonM ρ js = true) {b : Addr} : MutA (wipeE ρ js) (wipe σ js) b ↔ MutA ρ σ b := by
  constructor
  · rintro ⟨i, h1, h2⟩
    by_cases hi : i ∈ js
    · rw [wipeE_in hi] at h1; cases h1
    · rw [wipeE_out hi] at h1
      rw [wipe_out hi] at h2
      exact ⟨i, h1, h2⟩
  · rintro ⟨i, h1, h2⟩
    by_cases hi : i ∈ js
    · rw [nonM_of hn hi] at h1; cases h1
    · exact ⟨i, by rw [wipeE_out hi]; exact h1, by rw [wipe_out hi]; exact h2⟩
theorem Rel.wipe (R : Rel P w K F ρ σ H) (hn : nonM ρ js = true) : Rel P w K F (wipeE ρ js) (wipe σ js) H := by
  have al : ∀ b o, Al F ρ σ b → H b = some o → Al F (wipeE ρ js) (L2.wipe σ js) b ∧ H b = some o := fun b o s q => ⟨⟨s.1, fun z => s.2 ((mut_wipe hn).mp z)⟩, q⟩
  have nj : ∀ i s, wipeE ρ js i = s → s ≠ .un → i ∉ js ∧ ρ i = s := fun i s e h => by
    by_cases hi : i ∈ js
    · rw [wipeE_in hi] at e; exact absurd e.symm h
    · rw [wipeE_out hi] at e; exact ⟨hi, e⟩
  refine ⟨fun i d e => ?_, fun i d e => ?_, fun i d e => ?_, fun i d e => ?_, fun i j a hij p1 p2 q1 q2 => ?_, fun p hp => ?_, R.fresh, R.ent⟩
  · obtain ⟨hi, e⟩ := nj i _ e (fun z => nomatch z)
    obtain ⟨v, h1, h2⟩ := R.im i d e
    exact ⟨v, by rw [wipe_out hi]; exact h1, Dn.mono al h2⟩
  · obtain ⟨hi, e⟩ := nj i _ e (fun z => nomatch z)
    obtain ⟨v, h1, h2, h3⟩ := R.mu i d e
    exact ⟨v, by rw [wipe_out hi]; exact h1, h2.mono al fun _ z => z, h3⟩
  · obtain ⟨hi, e⟩ := nj i _ e (fun z => nomatch z)
    obtain ⟨v, h1, h2, h3⟩ := R.io i d e
    exact ⟨v, by rw [wipe_out hi]; exact h1, h2.mono al fun _ z => z, h3⟩
  · obtain ⟨hi, e⟩ := nj i _ e (fun z => nomatch z)
    obtain ⟨v, h1, h2⟩ := R.bo i d e
    refine ⟨v, by rw [wipe_out hi]; exact h1, ?_⟩
    rcases h2 with h2 | ⟨b, r1, r2, r3, r4⟩
    · exact .inl (Dn.mono al h2)
    · exact .inr ⟨b, r1, r2.mono al fun _ z => z, fun z => r3 ((mut_wipe hn).mp z), r4⟩
  · have hi : i ∉ js := fun z => by rw [wipeE_in z] at p1; cases p1
    have hj : j ∉ js := fun z => by rw [wipeE_in z] at p2; cases p2
    rw [wipeE_out hi] at p1
    rw [wipeE_out hj] at p2
    rw [wipe_out hi] at q1
    rw [wipe_out hj] at q2
    exact R.sep i j a hij p1 p2 q1 q2
  · obtain ⟨⟨d, hd⟩, hs⟩ := R.ioin p hp
    have hi : p.1 ∉ js := fun z => by
      have := nonM_of hn z
      rw [hd] at this
      cases this
    exact ⟨⟨d, by rw [wipeE_out hi]; exact hd⟩, by rw [wipe_out hi]; exact hs⟩
/-- back from a block: the slots js as they were, the others as they are now -/
theorem Rel.rest (R0 : Rel P w K F ρ σ H) (R : Rel P w K F ρ3 σ2 H3) (hn : nonM ρ js = true) (hσ : ∀ j, j ∉ js → σ2[j]? = σ[j]?) (le : ∀ j, j ∉ js → (ρ3 j).isM = true → (ρ j).isM = true)
    (kp : ∀ b o, (F.N b ∨ F.H0 b ≠ none) → H b = some o → ¬ MutA ρ σ b → H3 b = some o) : Rel P w K F (restE ρ js ρ3) σ H3 := by
  have mu : ∀ b, MutA (restE ρ js ρ3) σ b → MutA ρ σ b ∧ MutA ρ3 σ2 b := fun b ⟨i, h1, h2⟩ => by
    by_cases hi : i ∈ js
    · rw [restE_in hi, nonM_of hn hi] at h1; cases h1
    · rw [restE_out hi] at h1
      exact ⟨⟨i, le i hi h1, h2⟩, ⟨i, h1, by rw [hσ i hi]; exact h2⟩⟩
  have al0 : ∀ b o, Al F ρ σ b → H b = some o → Al F (restE ρ js ρ3) σ b ∧ H3 b = some o := fun b o s q => ⟨⟨s.1, fun z => s.2 (mu b z).1⟩, kp b o (.inl s.1) q s.2⟩
  have al : ∀ b o, Al F ρ3 σ2 b → H3 b = some o → Al F (restE ρ js ρ3) σ b ∧ H3 b = some o := fun b o s q => ⟨⟨s.1, fun z => s.2 (mu b z).2⟩, q⟩
  refine ⟨fun i d e => ?_, fun i d e => ?_, fun i d e => ?_, fun i d e => ?_, fun i j a hij p1 p2 q1 q2 => ?_, fun p hp => ?_, R.fresh, R.ent⟩
  · by_cases hi : i ∈ js
    · rw [restE_in hi] at e
      obtain ⟨v, h1, h2⟩ := R0.im i d e
      exact ⟨v, h1, Dn.mono al0 h2⟩
    · rw [restE_out hi] at e
      obtain ⟨v, h1, h2⟩ := R.im i d e
      exact ⟨v, by rw [← hσ i hi]; exact h1, Dn.mono al h2⟩
  · by_cases hi : i ∈ js
    · rw [restE_in hi] at e
      have := nonM_of hn hi
      rw [e] at this
      cases this
    · rw [restE_out hi] at e
      obtain ⟨v, h1, h2, h3⟩ := R.mu i d e
      exact ⟨v, by rw [← hσ i hi]; exact h1, h2.mono al fun _ z => z, h3⟩
  · by_cases hi : i ∈ js
    · rw [restE_in hi] at e
      have := nonM_of hn hi
      rw [e] at this
      cases this
    · rw [restE_out hi] at e
      obtain ⟨v, h1, h2, h3⟩ := R.io i d e
      exact ⟨v, by rw [← hσ i hi]; exact h1, h2.mono al fun _ z => z, h3⟩
  · by_cases hi : i ∈ js
    · rw [restE_in hi] at e
      obtain ⟨v, h1, h2⟩ := R0.bo i d e
      refine ⟨v, h1, ?_⟩
      rcases h2 with h2 | ⟨b, r1, r2, r3, r4, o, r5⟩
      · exact .inl (Dn.mono al0 h2)
      · exact .inr ⟨b, r1, r2.mono al0 fun o z => kp b o r4 z r3, fun z => r3 (mu b z).1, r4, o, kp b o r4 r5 r3⟩
    · rw [restE_out hi] at e
      obtain ⟨v, h1, h2⟩ := R.bo i d e
      refine ⟨v, by rw [← hσ i hi]; exact h1, ?_⟩
      rcases h2 with h2 | ⟨b, r1, r2, r3, r4⟩
      · exact .inl (Dn.mono al h2)
      · exact .inr ⟨b, r1, r2.mono al fun _ z => z, fun z => r3 (mu b z).2, r4⟩
  · have hi : i ∉ js := fun z => by rw [restE_in z, nonM_of hn z] at p1; cases p1
    have hj : j ∉ js := fun z => by rw [restE_in z, nonM_of hn z] at p2; cases p2
    rw [restE_out hi] at p1
    rw [restE_out hj] at p2
    exact R.sep i j a hij p1 p2 (by rw [hσ i hi]; exact q1) (by rw [hσ j hj]; exact q2)
  · obtain ⟨⟨d, hd⟩, hs⟩ := R.ioin p hp
    obtain ⟨⟨d0, hd0⟩, hs0⟩ := R0.ioin p hp
    have hi : p.1 ∉ js := fun z => by
      have := nonM_of hn z
      rw [hd0] at this
      cases this
    exact ⟨⟨d, by rw [restE_out hi]; exact hd⟩, hs0⟩
/-- an object that the frame does not know -/
structure Asd (F : Fr) (ρ : Env) (σ : Sg) (Dl : Addr) : Prop where
  n : ¬ F.N Dl
  m : ¬ MutA ρ σ Dl
  h0 : F.H0 Dl = none
theorem Rel.aside (R : Rel P w K F ρ σ H) (A : Asd F ρ σ Dl) {o : HO} : Rel P w K F ρ σ (upd H Dl o) := by
  have al : ∀ b o', Al F ρ σ b → H b = some o' → Al F ρ σ b ∧ upd H Dl o b = some o' := fun b o' s q => ⟨s, by rw [upd_ne fun z => A.n (by rw [← z]; exact s.1)]; exact q⟩
  refine ⟨fun i d e => ?_, fun i d e => ?_, fun i d e => ?_, fun i d e => ?_, R.sep, R.ioin, fun a e => R.fresh a ?_, fun b o' e hp => ?_⟩
  · obtain ⟨v, h1, h2⟩ := R.im i d e
    exact ⟨v, h1, Dn.mono al h2⟩
  · obtain ⟨v, h1, h2, h3⟩ := R.mu i d e
    exact ⟨v, h1, h2.mono al fun o' z => by rw [upd_ne fun y => A.m ⟨i, by rw [e]; rfl, by rw [← y]; exact h1⟩]; exact z, h3⟩
  · obtain ⟨v, h1, h2, h3⟩ := R.io i d e
    exact ⟨v, h1, h2.mono al fun o' z => by rw [upd_ne fun y => A.m ⟨i, by rw [e]; rfl, by rw [← y]; exact h1⟩]; exact z, h3⟩
  · obtain ⟨v, h1, h2⟩ := R.bo i d e
    refine ⟨v, h1, ?_⟩
    rcases h2 with h2 | ⟨b, r1, r2, r3, r4, o', r5⟩
    · exact .inl (Dn.mono al h2)
    · have hb : b ≠ Dl := fun z => r4.elim (fun y => A.n (by rw [← z]; exact y)) fun y => y (by rw [z]; exact A.h0)
      exact .inr ⟨b, r1, r2.mono al fun o' z => by rw [upd_ne hb]; exact z, r3, r4, o', by rw [upd_ne hb]; exact r5⟩
  · by_cases z : a = Dl
    · subst z; rw [upd_same] at e; cases e
    · rw [upd_ne z] at e; exact e
  · rw [upd_ne fun z => by rw [z, A.h0] at e; cases e]
    exact R.ent b o' e hp
/-- how the heap is left, but for one object -/
structure Kq (Dl : Addr) (t : Bool) (ρ ρ' : Env) (σ : Sg) (H H' : Hp) : Prop where
  le : ∀ i, (ρ' i).isM = true → (ρ i).isM = true
  kp : ∀ b o, b ≠ Dl → H b = some o → (t = true → ¬ MutA ρ σ b) → H' b = some o
  th : ∀ b o, H b = some o → ∃ o', H' b = some o'
theorem Kq.refl : Kq Dl t ρ ρ σ H H := ⟨fun _ h => h, fun _ _ _ h _ => h, fun _ o h => ⟨o, h⟩⟩
theorem Kq.trans {ρ'' : Env} {H'' : Hp} (a : Kq Dl t ρ ρ' σ H H') (b : Kq Dl t ρ' ρ'' σ H' H'') : Kq Dl t ρ ρ'' σ H H'' :=
  ⟨fun i h => a.le i (b.le i h), fun c o hc e hm => b.kp c o hc (a.kp c o hc e hm) fun ht ⟨i, h1, h2⟩ => hm ht ⟨i, a.le i h1, h2⟩, fun c o e => let ⟨_, q⟩ := a.th c o e; b.th c _ q⟩
theorem Kq.up (a : Kq Dl t ρ ρ' σ H H') (h : t = true → u = true) : Kq Dl u ρ ρ' σ H H' := ⟨a.le, fun b o hb e hm => a.kp b o hb e fun ht => hm (h ht), a.th⟩
theorem Kp.kq (a : Kp t ρ ρ' σ H H') : Kq Dl t ρ ρ' σ H H' := ⟨a.le, fun b o _ e hm => a.kp b o e hm, a.th⟩
theorem Kq.al (a : Kq Dl t ρ ρ' σ H H') (hD : ¬ F.N Dl) : ∀ b o, Al F ρ σ b → H b = some o → Al F ρ' σ b ∧ H' b = some o := fun b o s e =>
  ⟨⟨s.1, fun ⟨i, h1, h2⟩ => s.2 ⟨i, a.le i h1, h2⟩⟩, a.kp b o (fun z => hD (by rw [← z]; exact s.1)) e fun _ => s.2⟩
theorem Asd.le (A : Asd F ρ σ Dl) (h : ∀ i, (ρ' i).isM = true → (ρ i).isM = true) : Asd F ρ' σ Dl := ⟨A.n, fun ⟨i, h1, h2⟩ => A.m ⟨i, h i h1, h2⟩, A.h0⟩
end

/-! ### what is computed -/
def lcL (js : List Nat) (step : D → M (List D)) : List D → M (List D)
  | [], ρ => .ok [] ρ
  | d :: ds, ρ => (step d (wipeE ρ js)).bind fun r ρ' => (lcL js step ds (restE ρ js ρ')).bind fun rs ρ'' => .ok (r ++ rs) ρ''
def noEx {α : Type} (m : M α) : M α := fun ρ => match m ρ with
  | .ok a ρ' => .ok a ρ'
  | _ => .bad
def clM (src : M (List D)) (js : List Nat) (step : D → M (List D)) : M (List D) := fun ρ => (src ρ).bind fun ds ρ1 => bif nonM ρ1 js then noEx (lcL js step ds) ρ1 else .bad
def stepM (p : Pat) (tt : M Bool) (tb : M (List D)) : D → M (List D) := fun d ρ => match bindP p d ρ with
  | none => .bad
  | some ρ1 => (tt ρ1).bind fun b ρ2 => bif b then tb ρ2 else .ok [] ρ2
def elM (te : M D) : M (List D) := M.bind te fun d => M.pure [d]
def yesM : M Bool := M.pure true
abbrev W0 : WX := fun _ _ _ _ => False
/-- a body's reading: data behind what the list at Dl holds -/
def tbR (X : Cx) (Dl : Addr) (t : Bool) (m : M (List D)) : TB := fun σ H Nx => ∃ F ρ ac acD, Rel X.prog X.w X.K F ρ σ H ∧ Asd F ρ σ Dl ∧ H Dl = some (.lst ac) ∧ DnAll X.prog X.w X.K (Al F ρ σ) H ac acD ∧
  (m ρ).sat (fun r ρ' => acD.length + r.length ≤ sizeLine ∧ ∀ ac' H', Rel X.prog X.w X.K F ρ' σ H' → Kq Dl t ρ ρ' σ H H' → H' Dl = some (.lst ac') → DnAll X.prog X.w X.K (Al F ρ' σ) H' ac' (acD ++ r) → Nx H') fun _ _ _ => False
section
variable {X : Cx} {XR : XRep}
theorem PBi {vs : List Nat} {bd : Bdy} {t t' : TB} (h : PB X vs bd t) (i : ∀ σ H N, t' σ H N → t σ H N) : PB X vs bd t' := ⟨fun p s σ H N P I z k => h.run p s σ H N P I (i σ H N z) k⟩
theorem Out.no {α : Type} {o : Out α} {k : α → Env → Prop} {e : Nat → List D → Env → Prop} (h : o.sat k fun _ _ _ => False) : o.sat k e := Out.sat_mono h (fun _ _ z => z) fun _ _ _ z => z.elim
theorem b_el {te : TE} {t : Bool} {m : M D} {Dl : Addr} (h : ∀ σ H Q, TG X W0 XR false t m σ H Q → te σ H Q) : ∀ σ H Nx, tbR X Dl t (elM m) σ H Nx → tEl te Dl σ H Nx := fun σ H Nx ⟨F, ρ, ac, acD, R, A, hD, hd, z⟩ =>
  h _ _ _ ⟨F, ρ, R, Out.no (Out.sat_mono (sat2 z) (fun d ρ1 k v H1 R1 K1 D1 => by
    obtain ⟨k1, k⟩ := k
    have hD1 : H1 Dl = some (.lst ac) := K1.kp Dl _ hD fun _ => A.m
    have A1 := A.le K1.le
    have g : ∀ b o, Al F ρ1 σ b → H1 b = some o → Al F ρ1 σ b ∧ upd H1 Dl (.lst (ac ++ [v])) b = some o := fun b o s e => ⟨s, by rw [upd_ne fun z => A.n (by rw [← z]; exact s.1)]; exact e⟩
    refine ⟨ac, hD1, by rw [hd.length]; simp at k1; omega, k _ _ (R1.aside A1) ((K1.kq).trans ⟨fun _ h => h, fun b o hb e _ => by rw [upd_ne hb]; exact e, fun b o e => ?_⟩) upd_same ?_⟩
    · by_cases hb : b = Dl
      · subst hb; exact ⟨_, upd_same⟩
      · exact ⟨o, by rw [upd_ne hb]; exact e⟩
    · exact (DnAll.mono g (DnAll.kp K1 hd)).append (.cons (Dn.mono g D1) .nil)) fun _ _ _ h => h)⟩
mutual
theorem bindP_le : ∀ (p : Pat) (d : D) (ρ ρ' : Env), bindP p d ρ = some ρ' → ∀ j, (ρ' j).isM = true → (ρ j).isM = true
  | .nm i, d, ρ, ρ', e, j, h => by
    unfold bindP at e
    split at e
    · cases e
      by_cases y : j = i
      · subst y; rw [put_same] at h; cases h
      · rw [put_ne y] at h; exact h
    · cases e
  | .tp ps, d, ρ, ρ', e, j, h => by
    unfold bindP at e
    split at e
    · exact bindPs_le ps _ _ _ e j h
    · cases e
theorem bindPs_le : ∀ (ps : List Pat) (ds : List D) (ρ ρ' : Env), bindPs ps ds ρ = some ρ' → ∀ j, (ρ' j).isM = true → (ρ j).isM = true
  | [], [], ρ, ρ', e, j, h => by
    unfold bindPs at e
    cases e
    exact h
  | p :: ps, d :: ds, ρ, ρ', e, j, h => by
    unfold bindPs at e
    split at e
    · rename_i ρ1 e1
      exact bindP_le p d _ _ e1 j (bindPs_le ps ds _ _ e j h)
    · cases e
  | [], _ :: _, _, _, e, _, _ => by unfold bindPs at e; cases e
  | _ :: _, [], _, _, e, _, _ => by unfold bindPs at e; cases e
end
theorem wipe_eq {us : List Nat} {σ σ2 : Sg} (hl : σ2.length = σ.length) (h : ∀ j, j ∉ us → σ2[j]? = σ[j]?) : wipe σ2 us = wipe σ us := by
  have w : ∀ (ρ' : Sg) (j : Nat) (us : List Nat), j ∈ us → j < ρ'.length → (wipe ρ' us)[j]? = some none := fun ρ' j us => by
    induction us with
    | nil => intro h _; cases h
    | cons u us ih =>
      intro h hl
      show ((wipe ρ' us).set u none)[j]? = _
      by_cases hu : u = j
      · subst hu
        rw [List.getElem?_set_self (by rw [wipe_length]; exact hl)]
      · rw [List.getElem?_set_ne hu]
        exact ih ((List.mem_cons.mp h).resolve_left fun z => hu z.symm) hl
  apply List.ext_getElem?
  intro j
  by_cases hj : j ∈ us
  · by_cases q : j < σ.length
    · rw [w σ j us hj q, w σ2 j us hj (by omega)]
    · rw [List.getElem?_eq_none (by rw [wipe_length]; omega), List.getElem?_eq_none (by rw [wipe_length]; omega)]
  · rw [wipe_out hj, wipe_out hj, h j hj]
/-- a loop of a clause over what J yields -/
theorem b_loop {J : It} {g : L2.TG} {tt : TT} {tb : TB} {us : List Nat} {p : Pat} {t2 t3 t : Bool} {tm : M Bool} {m : M (List D)} {Dl : Addr} {F : Fr} {ρ : Env} {σ : Sg} {H : Hp} {ac : List V} {acD : List D} {ds : List D} {Q : Hp → Prop} {T : Addr → Prop}
    (hg : ∀ v σ H Q, gP X p v σ H Q → g v σ H Q) (ht : ∀ σ H Q, TTs X W0 XR t2 tm σ H Q → tt σ H Q) (hb : ∀ σ H N, tbR X Dl t3 m σ H N → tb σ H N) (hp : ∀ i ∈ patVs p, i ∈ us) (h2 : t2 = true → t = true) (h3 : t3 = true → t = true)
    (R : Rel X.prog X.w X.K F ρ σ H) (A : Asd F ρ σ Dl) (hD : H Dl = some (.lst ac)) (hd : DnAll X.prog X.w X.K (Al F ρ σ) H ac acD) (hn : nonM ρ us = true) {S : Addr → Prop} {H0 : Hp} (wk : Wk X S T H0 J ds)
    (hS : ∀ a o, S a → H0 a = some o → Al F ρ σ a ∧ H a = some o) (hT : ∀ a o, T a → H0 a = some o → H a = some o ∧ a ≠ Dl ∧ (t = true → ¬ MutA ρ σ a))
    (z : (lcL us (stepM p tm m) ds ρ).sat (fun r ρ' => acD.length + r.length ≤ sizeLine ∧ ∀ ac' H', Rel X.prog X.w X.K F ρ' σ H' → Kq Dl t ρ ρ' σ H H' → H' Dl = some (.lst ac') → DnAll X.prog X.w X.K (Al F ρ' σ) H' ac' (acD ++ r) → Q H') fun _ _ _ => False) :
    tLoop J g tt tb us σ H Q := by
  refine ⟨fun i n H1 => n = ds.length - i ∧ i ≤ ds.length ∧ ∃ ρ1 ac1 acD1, Rel X.prog X.w X.K F ρ1 σ H1 ∧ nonM ρ1 us = true ∧ H1 Dl = some (.lst ac1) ∧ DnAll X.prog X.w X.K (Al F ρ1 σ) H1 ac1 acD1 ∧ Kq Dl t ρ ρ1 σ H H1 ∧
    (lcL us (stepM p tm m) (ds.drop i) ρ1).sat (fun r ρ' => acD1.length + r.length ≤ sizeLine ∧ ∀ ac' H', Rel X.prog X.w X.K F ρ' σ H' → Kq Dl t ρ ρ' σ H H' → H' Dl = some (.lst ac') → DnAll X.prog X.w X.K (Al F ρ' σ) H' ac' (acD1 ++ r) → Q H') fun _ _ _ => False,
    ⟨ds.length, by simp, Nat.zero_le _, ρ, ac, acD, R, hn, hD, hd, .refl, z⟩, ?_⟩
  rintro i n H1 ⟨rfl, hi, ρ1, ac1, acD1, R1, hn1, hD1, hd1, K1, z1⟩
  have A1 := A.le K1.le
  -- the iterator, over what stands now
  have wk1 := wk (Al F (wipeE ρ1 us) (wipe σ us)) H1 (fun a o s e => by
    obtain ⟨s1, e1⟩ := hS a o s e
    obtain ⟨s2, e2⟩ := K1.al A.n a o s1 e1
    exact ⟨⟨s2.1, fun y => s2.2 ((mut_wipe hn1).mp y)⟩, e2⟩) (fun a o s e => by
    obtain ⟨e1, e2, e3⟩ := hT a o s e
    exact K1.kp a o e2 e1 e3)
  obtain ⟨goes, stops, yields⟩ := wk1
  by_cases hlt : i < ds.length
  · refine .inr ⟨fun H' => ds.length - (i + 1) = ds.length - (i + 1) ∧ i + 1 ≤ ds.length ∧ ∃ ρ1 ac1 acD1, Rel X.prog X.w X.K F ρ1 σ H' ∧ nonM ρ1 us = true ∧ H' Dl = some (.lst ac1) ∧ DnAll X.prog X.w X.K (Al F ρ1 σ) H' ac1 acD1 ∧ Kq Dl t ρ ρ1 σ H H' ∧
        (lcL us (stepM p tm m) (ds.drop (i + 1)) ρ1).sat (fun r ρ' => acD1.length + r.length ≤ sizeLine ∧ ∀ ac' H', Rel X.prog X.w X.K F ρ' σ H' → Kq Dl t ρ ρ' σ H H' → H' Dl = some (.lst ac') → DnAll X.prog X.w X.K (Al F ρ' σ) H' ac' (acD1 ++ r) → Q H') fun _ _ _ => False,
      fun H' w => ⟨_, by omega, w⟩, goes i hlt, fun x H2 y => ?_⟩
    obtain ⟨gr, yd⟩ := yields i x H2 hlt y
    have Rw := R1.wipe hn1
    obtain ⟨d, ed, dd⟩ := yd (Al F (wipeE ρ1 us) (wipe σ us)) (fun _ s => s) fun a e => Rw.new e
    have edr : ds.drop i = d :: ds.drop (i + 1) := by rw [List.drop_eq_getElem_cons hlt]; congr 1; exact (List.getElem?_eq_some_iff.mp ed).2
    rw [edr] at z1
    unfold lcL at z1
    have z2 := Out.sat_bind.mp z1
    cases eb : bindP p d (wipeE ρ1 us) with
    | none =>
      have es : stepM p tm m d (wipeE ρ1 us) = .bad := by unfold stepM; rw [eb]
      rw [es] at z2
      exact z2.elim
    | some ρ2 =>
      have es : stepM p tm m d (wipeE ρ1 us) = (tm ρ2).bind fun b ρ3 => bif b then m ρ3 else .ok [] ρ3 := by unfold stepM; rw [eb]
      rw [es] at z2
      have z3 := Out.sat_bind.mp z2
      have Rg := Rw.grow gr
      refine hg _ _ _ _ ⟨F, wipeE ρ1 us, d, ρ2, Rg, dd, eb, fun σ2 R2 dk2 ch2 che2 => ⟨?_, ht _ _ _ ⟨F, ρ2, R2, Out.no (Out.sat_mono z3 (fun b ρ3 k3 H3 R3 K3 => ?_) fun _ _ _ h => h)⟩⟩⟩
      · rw [wipe_eq ch2.1 fun j hj => ch2.2 j fun y => hj (hp j y)]
        exact wipe_eq (wipe_length σ us) fun j hj => wipe_out hj
      · -- what stood at the turn's start stands, and the slots beside us
        have o2 : ∀ j, j ∉ us → σ2[j]? = σ[j]? := fun j hj => by rw [ch2.2 j fun y => hj (hp j y), wipe_out hj]
        have le2 : ∀ j, j ∉ us → (ρ2 j).isM = true → (ρ1 j).isM = true := fun j hj h => by rw [che2 j fun y => hj (hp j y), wipeE_out hj] at h; exact h
        have le3 : ∀ j, (ρ2 j).isM = true → (ρ1 j).isM = true := fun j h => by
          by_cases hj : j ∈ patVs p
          · have q := bindP_le p d _ _ eb j h
            by_cases hu : j ∈ us
            · rw [wipeE_in hu] at q; cases q
            · rw [wipeE_out hu] at q; exact q
          · rw [che2 j hj] at h
            by_cases hu : j ∈ us
            · rw [wipeE_in hu] at h; cases h
            · rw [wipeE_out hu] at h; exact h
        have mu2 : ∀ b, MutA ρ2 σ2 b → MutA ρ1 σ b := fun b ⟨j, q1, q2⟩ => by
          have q3 := le3 j q1
          have hj : j ∉ us := fun y => by rw [nonM_of hn1 y] at q3; cases q3
          exact ⟨j, q3, by rw [← o2 j hj]; exact q2⟩
        have A2 : Asd F ρ2 σ2 Dl := ⟨A1.n, fun y => A1.m (mu2 _ y), A1.h0⟩
        have A3 := A2.le K3.le
        have hD3 : H3 Dl = some (.lst ac1) := K3.kp Dl _ (gr _ _ hD1) fun _ => A2.m
        have al3 : ∀ b o, Al F ρ1 σ b → H1 b = some o → Al F ρ3 σ2 b ∧ H3 b = some o := fun b o s e => K3.al b o ⟨s.1, fun y => s.2 (mu2 b y)⟩ (gr b o e)
        have hd3 := DnAll.mono al3 hd1
        -- the end of the turn
        have fin : ∀ {ρ4 : Env} {H4 : Hp} {ac4 : List V} {r : List D} {tx : Bool}, Rel X.prog X.w X.K F ρ4 σ2 H4 → (tx = true → t = true) → Kq Dl tx ρ3 ρ4 σ2 H3 H4 → H4 Dl = some (.lst ac4) → DnAll X.prog X.w X.K (Al F ρ4 σ2) H4 ac4 (acD1 ++ r) →
            ((lcL us (stepM p tm m) (ds.drop (i + 1)) (restE ρ1 us ρ4)).sat (fun rs ρ'' => (Out.ok (r ++ rs) ρ'').sat (fun r ρ' => acD1.length + r.length ≤ sizeLine ∧ ∀ ac' H', Rel X.prog X.w X.K F ρ' σ H' → Kq Dl t ρ ρ' σ H H' → H' Dl = some (.lst ac') → DnAll X.prog X.w X.K (Al F ρ' σ) H' ac' (acD1 ++ r) → Q H') fun _ _ _ => False) fun _ _ _ => False) →
            ∃ ρ1 ac1 acD1, Rel X.prog X.w X.K F ρ1 σ H4 ∧ nonM ρ1 us = true ∧ H4 Dl = some (.lst ac1) ∧ DnAll X.prog X.w X.K (Al F ρ1 σ) H4 ac1 acD1 ∧ Kq Dl t ρ ρ1 σ H H4 ∧
              (lcL us (stepM p tm m) (ds.drop (i + 1)) ρ1).sat (fun r ρ' => acD1.length + r.length ≤ sizeLine ∧ ∀ ac' H', Rel X.prog X.w X.K F ρ' σ H' → Kq Dl t ρ ρ' σ H H' → H' Dl = some (.lst ac') → DnAll X.prog X.w X.K (Al F ρ' σ) H' ac' (acD1 ++ r) → Q H') fun _ _ _ => False :=
          fun {ρ4 H4 ac4 r tx} R4 htx K4 hD4 hd4 z4 => by
          have le4 : ∀ j, j ∉ us → (ρ4 j).isM = true → (ρ1 j).isM = true := fun j hj h => le3 j (K3.le j (K4.le j h))
          have kp4 : ∀ b o, b ≠ Dl → H1 b = some o → (t = true → ¬ MutA ρ1 σ b) → H4 b = some o := fun b o hb e hm => by
            refine K4.kp b o hb (K3.kp b o (gr b o e) fun q => fun y => hm (h2 q) (mu2 b y)) fun q => fun ⟨j, q1, q2⟩ => ?_
            exact hm (htx q) (mu2 b ⟨j, K3.le j q1, q2⟩)
          have R5 := R1.rest R4 hn1 o2 le4 fun b o hb e hm => kp4 b o (fun y => hb.elim (fun y2 => A1.n (by rw [← y]; exact y2)) fun y2 => y2 (by rw [y]; exact A1.h0)) e fun _ => hm
          have mu5 : ∀ b, MutA (restE ρ1 us ρ4) σ b → MutA ρ4 σ2 b ∧ MutA ρ1 σ b := fun b ⟨j, q1, q2⟩ => by
            by_cases hj : j ∈ us
            · rw [restE_in hj, nonM_of hn1 hj] at q1; cases q1
            · rw [restE_out hj] at q1
              exact ⟨⟨j, q1, by rw [o2 j hj]; exact q2⟩, ⟨j, le4 j hj q1, q2⟩⟩
          refine ⟨restE ρ1 us ρ4, ac4, acD1 ++ r, R5, ?_, hD4, DnAll.mono (fun b o s e => ⟨⟨s.1, fun y => s.2 (mu5 b y).1⟩, e⟩) hd4, K1.trans ⟨fun j h => ?_, kp4, fun b o e => ?_⟩, Out.sat_mono z4 (fun rs ρ5 k5 => ?_) fun _ _ _ h => h⟩
          · exact List.all_eq_true.mpr fun j hj => by rw [restE_in hj, nonM_of hn1 hj]; rfl
          · by_cases hj : j ∈ us
            · rw [restE_in hj] at h; exact h
            · rw [restE_out hj] at h; exact le4 j hj h
          · obtain ⟨o1, e1⟩ := K3.th b o (gr b o e)
            exact K4.th b o1 e1
          · obtain ⟨k6, k7⟩ := k5
            simp only [List.length_append, List.append_assoc] at k6 k7 ⊢
            exact ⟨by omega, k7⟩
        cases b with
        | false =>
          have k4 := Out.sat_bind.mp (show ((lcL us (stepM p tm m) (ds.drop (i + 1)) (restE ρ1 us ρ3)).bind _).sat _ _ from k3)
          exact ⟨rfl, hlt, fin (tx := false) (r := []) R3 (fun y => nomatch y) .refl hD3 (by rw [List.append_nil]; exact hd3) k4⟩
        | true =>
          refine hb _ _ _ ⟨F, ρ3, ac1, acD1, R3, A3, hD3, hd3, Out.sat_mono (show (m ρ3).sat _ _ from k3) (fun r ρ4 k4 => ⟨?_, fun ac' H' R4 K4 hD4 hd4 => ?_⟩) fun _ _ _ h => h⟩
          · have k5 := Out.sat_bind.mp k4
            cases e5 : lcL us (stepM p tm m) (ds.drop (i + 1)) (restE ρ1 us ρ4) with
            | ok rs ρ5 =>
              rw [e5] at k5
              have k6 : acD1.length + (r ++ rs).length ≤ sizeLine := k5.1
              rw [List.length_append] at k6
              omega
            | ex c y ρ5 => rw [e5] at k5; exact k5.elim
            | bad => rw [e5] at k5; exact k5.elim
          · exact ⟨rfl, hlt, fin R4 h3 K4 hD4 hd4 (Out.sat_bind.mp k4)⟩
  · have e : i = ds.length := by omega
    subst e
    rw [List.drop_length] at z1
    obtain ⟨_, z1⟩ := z1
    exact .inl ⟨stops, z1 ac1 H1 R1 K1 hD1 (by rw [List.append_nil]; exact hd1)⟩
theorem noEx_sat {α : Type} {m : M α} {ρ : Env} {k : α → Env → Prop} {e : Nat → List D → Env → Prop} (h : (noEx m ρ).sat k e) : (m ρ).sat k fun _ _ _ => False := by
  unfold noEx at h
  cases q : m ρ with
  | ok a ρ1 => rw [q] at h; exact h
  | ex c ds ρ1 => rw [q] at h; exact h
  | bad => rw [q] at h; exact h
theorem clM_sat {src : M (List D)} {js : List Nat} {step : D → M (List D)} {ρ : Env} {k : List D → Env → Prop} {e : Nat → List D → Env → Prop} (h : (clM src js step ρ).sat k e) :
    (src ρ).sat (fun ds ρ1 => nonM ρ1 js = true ∧ (lcL js step ds ρ1).sat k fun _ _ _ => False) e := by
  refine Out.sat_mono (Out.sat_bind.mp h) (fun ds ρ1 k => ?_) fun _ _ _ h => h
  cases e1 : nonM ρ1 js with
  | true => rw [e1] at k; exact ⟨rfl, noEx_sat k⟩
  | false => rw [e1] at k; exact k.elim
/-- a later clause -/
theorem b_cl {wi : TI} {g : L2.TG} {tt : TT} {tb : TB} {us : List Nat} {p : Pat} {ts t2 t3 t : Bool} {src : M (List D)} {tm : M Bool} {m : M (List D)} {Dl : Addr} (hw : ∀ σ H R, ti (X := X) W0 XR false ts src σ H R → wi σ H R)
    (hg : ∀ v σ H Q, gP X p v σ H Q → g v σ H Q) (ht : ∀ σ H Q, TTs X W0 XR t2 tm σ H Q → tt σ H Q) (hb : ∀ σ H N, tbR X Dl t3 m σ H N → tb σ H N) (hp : ∀ i ∈ patVs p, i ∈ us) (h1 : ts = true → t = true) (h2 : t2 = true → t = true) (h3 : t3 = true → t = true) :
    ∀ σ H Nx, tbR X Dl t (clM src us (stepM p tm m)) σ H Nx → tCl wi g tt tb us σ H Nx := fun σ H Nx ⟨F, ρ, ac, acD, R, A, hD, hd, z⟩ =>
  hw _ _ _ ⟨F, ρ, R, Out.no (Out.sat_mono (clM_sat z) (fun ds ρ1 k J H1 R1 K1 wk => by
    obtain ⟨hn, k⟩ := k
    have A1 := A.le K1.le
    have hD1 : H1 Dl = some (.lst ac) := K1.kp Dl _ hD fun _ => A.m
    refine b_loop (t := t) hg ht hb hp h2 h3 R1 A1 hD1 (DnAll.kp K1 hd) hn wk (fun a o s e => ⟨s, e⟩) (fun a o s e => ?_) (Out.sat_mono k (fun r ρ' k => ⟨k.1, fun ac' H' R' K' => k.2 ac' H' R' ((K1.kq.up h1).trans K')⟩) fun _ _ _ h => h)
    rcases s with s | ⟨s1, s2⟩
    · cases s
    · exact ⟨e, fun y => s2.elim (fun y2 => A1.n (by rw [← y]; exact y2)) fun y2 => y2 (by rw [y]; exact A1.h0), fun _ => s1⟩) fun _ _ _ h => h)⟩
def compM (src : M (List D)) (js : List Nat) (step : D → M (List D)) : M D := M.bind (clM src js step) fun ds => M.lift (if szOk ds.length then some (.list ds) else none)
/-- the whole comprehension -/
theorem c_lcn {W : WX} {wi : TI} {g : L2.TG} {tt : TT} {tb : Addr → TB} {us : List Nat} {p : Pat} {u ts t2 t3 tl : Bool} {src : M (List D)} {tm : M Bool} {m : M (List D)} (hw : ∀ σ H R, ti (X := X) W XR u ts src σ H R → wi σ H R)
    (hg : ∀ v σ H Q, gP X p v σ H Q → g v σ H Q) (ht : ∀ σ H Q, TTs X W0 XR t2 tm σ H Q → tt σ H Q) (hb : ∀ Dl σ H N, tbR X Dl t3 m σ H N → tb Dl σ H N) (hp : ∀ i ∈ patVs p, i ∈ us) (h2 : t2 = true → tl = true) (h3 : t3 = true → tl = true) (hu : u = true → tl = false) :
    ∀ σ H Q, TF X W XR (ts || tl) (compM src us (stepM p tm m)) σ H Q → tLcN wi g tt tb us σ H Q := fun σ H Q ⟨F, ρ, R, z⟩ =>
  hw _ _ _ ⟨F, ρ, R, Out.sat_mono (clM_sat (sat2 z)) (fun ds ρ1 k J H1 R1 K1 wk Dl hDl => by
    obtain ⟨hn, k⟩ := k
    have gr := g_upd (o := .lst []) hDl
    have A1 : Asd (F.but Dl) ρ1 σ Dl := ⟨fun y => y.2 rfl, fun y => (by obtain ⟨o, q⟩ := R1.mutThere y; rw [hDl] at q; cases q), R1.none0 hDl⟩
    have R2 := R1.alloc hDl gr (by rw [upd_same]; exact fun y => nomatch y)
    have nD : ∀ b o, H1 b = some o → b ≠ Dl := fun b o e => ne_of_none e hDl
    refine b_loop (t := tl) hg ht (hb Dl) hp h2 h3 R2 A1 upd_same .nil hn wk (fun a o s e => ⟨⟨⟨s.1, nD a o e⟩, s.2⟩, gr a o e⟩) (fun a o s e => ⟨gr a o e, nD a o e, fun q => ?_⟩) (Out.sat_mono k (fun r ρ' k => ?_) fun _ _ _ h => h)
    · rcases s with s | s
      · rw [hu s] at q; cases q
      · exact s.1
    · obtain ⟨d, e1, k⟩ := satl k
      split at e1
      · rename_i hz
        cases e1
        refine ⟨by simpa using szOk_le hz, fun ac' H' R' K' hD' hd' => k Dl H' R' ⟨fun i h => K1.le i (K'.le i h), fun b o e hm => ?_, fun b o e => ?_⟩ (K1.none hDl) ⟨ac', hD', by simpa using hd'⟩⟩
        · have e2 := K1.kp b o e fun q => hm (by rw [q]; rfl)
          refine K'.kp b o (nD b o e2) (gr b o e2) fun q => fun ⟨i, q1, q2⟩ => hm (by rw [q, Bool.or_true]) ⟨i, K1.le i q1, q2⟩
        · obtain ⟨o1, e1⟩ := K1.th b o e
          exact K'.th b o1 (gr b o1 e1)
      · cases e1) fun _ _ _ h => h⟩
end
end Rf
end
section
set_option Elab.async false
set_option linter.all false
set_option maxRecDepth 100000
set_option maxHeartbeats 2000000
/-! Rf, part I: statements. -/
namespace Rf
open PySem PySem.Spec L2

/-! ### outcomes of statements -/
inductive Fl where
  | nx | bk | ct | rt (d : D)
abbrev MS := M Fl
section
variable (P : Program) (w : World) (K : PySem.W.Frag)
/-- a list or dict that nobody else knows -/
structure Own (F : Fr) (ρ : Env) (σ : Sg) (H : Hp) (a : Addr) (d : D) : Prop where
  rel : Rel P w K (F.but a) ρ σ H
  h0 : F.H0 a = none
  n : F.N a
  m : ¬ MutA ρ σ a
  ob : Ob P w K (Al (F.but a) ρ σ) H a d
/-- what is handed back: data; or a list or dict that is the caller's own from now on -/
def RetV (fr : Bool) (F : Fr) (ρ : Env) (σ : Sg) (H : Hp) (v : V) (d : D) : Prop := if fr = true then ∃ a, v = .ref a ∧ Own P w K F ρ σ H a d else Rel P w K F ρ σ H ∧ Dn P w K (Al F ρ σ) H v d
/-- what is wanted if a statement raises -/
def Xs (W : WX) (XR : XRep) (F : Fr) : WF := fun c ds ρ' => ∀ σ' cls d H', Rel P w K F ρ' σ' H' → XR c ds cls d H' → W cls d σ' H'
/-- a statement's reading: fr: what it returns is the caller's own -/
def tsr (W : WX) (XR : XRep) (fr : Bool) (m : MS) : TS := fun Dn σ H => ∃ F ρ, Rel P w K F ρ σ H ∧ (m ρ).sat (fun f ρ' => match f with
  | .nx => ∀ σ' H', Rel P w K F ρ' σ' H' → Dk ρ σ H ρ' σ' H' → Dn.nx σ' H'
  | .bk => ∀ σ' H', Rel P w K F ρ' σ' H' → Dk ρ σ H ρ' σ' H' → Dn.bk σ' H'
  | .ct => ∀ σ' H', Rel P w K F ρ' σ' H' → Dk ρ σ H ρ' σ' H' → Dn.ct σ' H'
  | .rt d => ∀ σ' v H', RetV P w K fr F ρ' σ' H' v d → Dn.rt v H') (Xs P w K W XR F)
/-- an expression's value is a list or dict that is the frame's own from now on -/
def tr (W : WX) (XR : XRep) (t : Bool) (m : M D) : TE := fun σ H Q => ∃ F ρ, Rel P w K F ρ σ H ∧
  (m ρ).sat (fun d ρ' => ∀ a H', Own P w K F ρ' σ H' a d → Kp t ρ ρ' σ H H' → (H a = none ∨ MutA ρ σ a) → Q (.ref a) H') (Xw P w K W XR F σ)
end
abbrev TSr (X : Cx) (W : WX) (XR : XRep) (fr : Bool) (m : MS) : TS := tsr X.prog X.w X.K W XR fr m
abbrev TR (X : Cx) (W : WX) (XR : XRep) (t : Bool) (m : M D) : TE := tr X.prog X.w X.K W XR t m
section
variable {X : Cx} {W : WX} {XR : XRep} {fr : Bool}
theorem Xw_of {F : Fr} {σ : Sg} {c : Nat} {ds : List D} {ρ : Env} (h : Xs X.prog X.w X.K W XR F c ds ρ) : Xw X.prog X.w X.K W XR F σ c ds ρ := fun cls d H' R x => h σ cls d H' R x
theorem noMut {F : Fr} {ρ ρ' : Env} {σ : Sg} {H H' : Hp} {t : Bool} (R : Rel X.prog X.w X.K F ρ σ H) (k : Kp t ρ ρ' σ H H') {a : Addr} (h : H a = none) : ¬ MutA ρ' σ a := fun ⟨i, h1, h2⟩ => by
  obtain ⟨o, q⟩ := R.mutThere ⟨i, k.le i h1, h2⟩
  rw [h] at q
  cases q
/-- a made list is the frame's own -/
theorem r_ff {e : Expr} {t : Bool} {m : M D} (h : PE X e (TF X W XR t m)) : PE X e (TR X W XR t m) := PEi h fun σ H Q ⟨F, ρ, R, z⟩ =>
  ⟨F, ρ, R, Out.sat_mono z (fun d ρ' k a H' R' K' n ob => k a H' ⟨R', R.none0 n, R.fresh a n, noMut R K' n, ob⟩ K' (.inl n)) fun _ _ _ h => h⟩
/-- the slot's list is handed on -/
def mvM (i : Nat) : M D := fun ρ => match ρ i with
  | .mu d => .ok d (ρ.put i .un)
  | _ => .bad
theorem Rel.out {F : Fr} {ρ : Env} {σ : Sg} {H : Hp} {i : Nat} {d : D} (R : Rel X.prog X.w X.K F ρ σ H) (e : ρ i = .mu d) : ∃ a, σ[i]? = some (some (.ref a)) ∧ Own X.prog X.w X.K F (ρ.put i .un) σ H a d := by
  obtain ⟨a, h1, h2, h3, h4⟩ := R.mu i d e
  have ma : MutA ρ σ a := ⟨i, by rw [e]; rfl, h1⟩
  have ml : ∀ b, MutA (ρ.put i .un) σ b → MutA ρ σ b ∧ b ≠ a := fun b ⟨j, q1, q2⟩ => by
    by_cases z : j = i
    · subst z; rw [put_same] at q1; cases q1
    · rw [put_ne z] at q1
      exact ⟨⟨j, q1, q2⟩, fun y => R.sep j i a z q1 (by rw [e]; rfl) (by rw [← y]; exact q2) h1⟩
  have al : ∀ b o, Al F ρ σ b → H b = some o → Al (F.but a) (ρ.put i .un) σ b ∧ H b = some o := fun b o s q => ⟨⟨⟨s.1, fun y => s.2 (by rw [y]; exact ma)⟩, fun y => s.2 (ml b y).1⟩, q⟩
  have nu : ∀ j s, (ρ.put i .un) j = s → s ≠ .un → j ≠ i ∧ ρ j = s := fun j s q h => by
    by_cases z : j = i
    · subst z; rw [put_same] at q; exact absurd q.symm h
    · rw [put_ne z] at q; exact ⟨z, q⟩
  refine ⟨a, h1, ⟨fun j c q => ?_, fun j c q => ?_, fun j c q => ?_, fun j c q => ?_, fun j k b hjk p1 p2 => ?_, fun p hp => ?_, fun b q => ⟨R.fresh b q, fun y => ?_⟩, R.ent⟩, h3, h4, fun y => (ml a y).2 rfl, h2.mono al fun _ z => z⟩
  · obtain ⟨_, q⟩ := nu j _ q fun z => nomatch z
    obtain ⟨v, p1, p2⟩ := R.im j c q
    exact ⟨v, p1, Dn.mono al p2⟩
  · obtain ⟨hj, q⟩ := nu j _ q fun z => nomatch z
    obtain ⟨v, p1, p2, p3, p4⟩ := R.mu j c q
    exact ⟨v, p1, p2.mono al fun _ z => z, p3, p4, fun y => R.sep j i a hj (by rw [q]; rfl) (by rw [e]; rfl) (by rw [← y]; exact p1) h1⟩
  · obtain ⟨_, q⟩ := nu j _ q fun z => nomatch z
    obtain ⟨v, p1, p2, p3⟩ := R.io j c q
    exact ⟨v, p1, p2.mono al fun _ z => z, p3⟩
  · obtain ⟨_, q⟩ := nu j _ q fun z => nomatch z
    obtain ⟨v, p1, p2⟩ := R.bo j c q
    refine ⟨v, p1, ?_⟩
    rcases p2 with p2 | ⟨b, r1, r2, r3, r4, r5⟩
    · exact .inl (Dn.mono al p2)
    · exact .inr ⟨b, r1, r2.mono al fun _ z => z, fun z => r3 (ml b z).1, r4.imp_left fun z => ⟨z, fun y => r3 (by rw [y]; exact ma)⟩, r5⟩
  · have q1 : (ρ j).isM = true := by
      by_cases z : j = i
      · subst z; rw [put_same] at p1; cases p1
      · rw [put_ne z] at p1; exact p1
    have q2 : (ρ k).isM = true := by
      by_cases z : k = i
      · subst z; rw [put_same] at p2; cases p2
      · rw [put_ne z] at p2; exact p2
    exact R.sep j k b hjk q1 q2
  · obtain ⟨⟨c, hc⟩, hs⟩ := R.ioin p hp
    refine ⟨⟨c, ?_⟩, hs⟩
    by_cases z : p.1 = i
    · rw [z, e] at hc; cases hc
    · rw [put_ne z]; exact hc
  · subst y
    obtain ⟨o, z⟩ := h2.there
    rw [q] at z
    cases z
theorem r_mv {i : Nat} {e : Expr} (h : PE X e (tVar i)) : PE X e (TR X W XR false (mvM i)) := PEi h fun σ H Q ⟨F, ρ, R, z⟩ => by
  unfold mvM at z
  cases e : ρ i with
  | mu d =>
    rw [e] at z
    obtain ⟨a, h1, O⟩ := R.out e
    refine ⟨_, h1, z a H O ⟨fun j h => ?_, fun _ _ q _ => q, fun _ o q => ⟨o, q⟩⟩ (.inr ⟨i, by rw [e]; rfl, h1⟩)⟩
    by_cases y : j = i
    · subst y; rw [put_same] at h; cases h
    · rw [put_ne y] at h; exact h
  | _ => rw [e] at z; exact z.elim
theorem r_up {e : Expr} {t t' : Bool} {m : M D} (h : PE X e (TR X W XR t m)) (ht : t = true → t' = true) : PE X e (TR X W XR t' m) := PEi h fun σ H Q ⟨F, ρ, R, z⟩ =>
  ⟨F, ρ, R, Out.sat_mono z (fun d ρ' k a H' O K n => k a H' O (K.up ht) n) fun _ _ _ h => h⟩

/-! ### simple statements -/
def nxM : MS := M.pure .nx
def bkM : MS := M.pure .bk
def ctM : MS := M.pure .ct
theorem s_next : ∀ Dn σ H, TSr X W XR fr nxM Dn σ H → tNext Dn σ H := fun Dn σ H ⟨F, ρ, R, z⟩ => z σ H R .refl
theorem s_brk : ∀ Dn σ H, TSr X W XR fr bkM Dn σ H → tBreak Dn σ H := fun Dn σ H ⟨F, ρ, R, z⟩ => z σ H R .refl
theorem s_cont : ∀ Dn σ H, TSr X W XR fr ctM Dn σ H → tCont Dn σ H := fun Dn σ H ⟨F, ρ, R, z⟩ => z σ H R .refl
/-- one after another -/
def seqM (a b : MS) : MS := M.bind a fun f => match f with
  | .nx => b
  | f => M.pure f
theorem s_seq {ta tb : TS} {a b : MS} (ha : ∀ Dn σ H, TSr X W XR fr a Dn σ H → ta Dn σ H) (hb : ∀ Dn σ H, TSr X W XR fr b Dn σ H → tb Dn σ H) : ∀ Dn σ H, TSr X W XR fr (seqM a b) Dn σ H → tSeq ta tb Dn σ H := fun Dn σ H ⟨F, ρ, R, z⟩ =>
  ha _ _ _ ⟨F, ρ, R, Out.sat_mono (sat2 z) (fun f ρ1 k => by
    cases f with
    | nx => exact fun σ1 H1 R1 K1 => hb _ _ _ ⟨F, ρ1, R1, Out.sat_mono k (fun f ρ2 k => by
        cases f with
        | nx => exact fun σ2 H2 R2 K2 => k σ2 H2 R2 (K1.trans K2)
        | bk => exact fun σ2 H2 R2 K2 => k σ2 H2 R2 (K1.trans K2)
        | ct => exact fun σ2 H2 R2 K2 => k σ2 H2 R2 (K1.trans K2)
        | rt d => exact k) fun _ _ _ h => h⟩
    | bk => exact k
    | ct => exact k
    | rt d => exact k) fun _ _ _ h => h⟩
/-- return e: data, or a list that is the caller's own from now on -/
def rtM (m : M D) : MS := M.bind m fun d => M.pure (.rt d)
theorem s_ret {te : TE} {t : Bool} {m : M D} (h : ∀ σ H Q, TG X W XR false t m σ H Q → te σ H Q) : ∀ Dn σ H, TSr X W XR false (rtM m) Dn σ H → tRet te Dn σ H := fun Dn σ H ⟨F, ρ, R, z⟩ =>
  h _ _ _ ⟨F, ρ, R, Out.sat_mono (sat2 z) (fun d ρ1 k v H1 R1 K1 D1 => k σ v H1 ⟨R1, D1⟩) fun _ _ _ h => Xw_of h⟩
theorem s_retF {te : TE} {t : Bool} {m : M D} (h : ∀ σ H Q, TR X W XR t m σ H Q → te σ H Q) : ∀ Dn σ H, TSr X W XR true (rtM m) Dn σ H → tRet te Dn σ H := fun Dn σ H ⟨F, ρ, R, z⟩ =>
  h _ _ _ ⟨F, ρ, R, Out.sat_mono (sat2 z) (fun d ρ1 k a H1 O K1 _ => k σ (.ref a) H1 ⟨a, rfl, O⟩) fun _ _ _ h => Xw_of h⟩
def rtN : MS := M.pure (.rt .none)
theorem s_retN : ∀ Dn σ H, TSr X W XR false rtN Dn σ H → tRetN Dn σ H := fun Dn σ H ⟨F, ρ, R, z⟩ => z σ .non H ⟨R, .non⟩
/-- e, its value dropped -/
def drM (m : M D) : MS := M.bind m fun _ => M.pure .nx
theorem s_drop {te : TE} {t : Bool} {m : M D} (h : ∀ σ H Q, TG X W XR true t m σ H Q → te σ H Q) : ∀ Dn σ H, TSr X W XR fr (drM m) Dn σ H → tDrop te Dn σ H := fun Dn σ H ⟨F, ρ, R, z⟩ =>
  h _ _ _ ⟨F, ρ, R, Out.sat_mono (sat2 z) (fun d ρ1 k v H1 R1 K1 D1 => k σ H1 R1 K1.dk) fun _ _ _ h => Xw_of h⟩
/-- target = data -/
def asM (p : Pat) (m : M D) : MS := M.bind m fun d => fun ρ => match bindP p d ρ with
  | some ρ' => .ok .nx ρ'
  | none => .bad
theorem s_asg {te : TE} {g : L2.TG} {t : Bool} {m : M D} {p : Pat} (h : ∀ σ H Q, TG X W XR false t m σ H Q → te σ H Q) (hg : ∀ v σ H Q, gP X p v σ H Q → g v σ H Q) : ∀ Dn σ H, TSr X W XR fr (asM p m) Dn σ H → tAsg te g Dn σ H := fun Dn σ H ⟨F, ρ, R, z⟩ =>
  h _ _ _ ⟨F, ρ, R, Out.sat_mono (sat2 z) (fun d ρ1 k v H1 R1 K1 D1 => by
    cases e : bindP p d ρ1 with
    | none => rw [e] at k; exact k.elim
    | some ρ2 =>
      rw [e] at k
      exact hg _ _ _ _ ⟨F, ρ1, d, ρ2, R1, D1, e, fun σ2 R2 K2 _ _ => k σ2 H1 R2 (K1.dk.trans K2)⟩) fun _ _ _ h => Xw_of h⟩
/-- name = a list or dict of the frame's own -/
def asMu (i : Nat) (m : M D) : MS := M.bind m fun d => fun ρ => if notIo (ρ i) then .ok .nx (ρ.put i (.mu d)) else .bad
/-- the slot i gets a list or dict of the frame's own -/
theorem Own.set {F : Fr} {ρ : Env} {σ : Sg} {H : Hp} {a : Addr} {d : D} {i : Nat} (O : Own X.prog X.w X.K F ρ σ H a d) (hi : i < σ.length) (hn : notIo (ρ i) = true) {ρ0 : Env} {H0 : Hp} (k : Dk ρ0 σ H0 ρ σ H) (n : H0 a = none ∨ MutA ρ0 σ a) :
    Rel X.prog X.w X.K F (ρ.put i (.mu d)) (σ.set i (some (.ref a))) H ∧ Dk ρ0 σ H0 (ρ.put i (.mu d)) (σ.set i (some (.ref a))) H := by
  refine ⟨O.rel.setMu hi hn O.h0 O.n O.m O.ob, fun b o e h => ?_⟩
  obtain ⟨h1, h2⟩ := k b o e h
  refine ⟨h1, fun ⟨j, q1, q2⟩ => ?_⟩
  by_cases z : j = i
  · subst z
    rw [List.getElem?_set_self hi] at q2
    cases q2
    rcases n with n | n
    · rw [n] at e; cases e
    · exact h n
  · rw [put_ne z] at q1
    rw [List.getElem?_set_ne (Ne.symm z)] at q2
    exact h2 ⟨j, q1, q2⟩
theorem s_mu {te : TE} {t : Bool} {m : M D} {i : Nat} (h : ∀ σ H Q, TR X W XR t m σ H Q → te σ H Q) : ∀ Dn σ H, i < σ.length → TSr X W XR fr (asMu i m) Dn σ H → tAsg te (gName i) Dn σ H := fun Dn σ H hi ⟨F, ρ, R, z⟩ =>
  h _ _ _ ⟨F, ρ, R, Out.sat_mono (sat2 z) (fun d ρ1 k a H1 O K1 n => by
    split at k
    · rename_i hz
      obtain ⟨R2, K2⟩ := O.set hi hz K1.dk n
      exact k _ H1 R2 K2
    · exact k.elim) fun _ _ _ h => Xw_of h⟩

/-! ### if, while, for -/
def ifM (c : M Bool) (a b : MS) : MS := M.bind c fun x => bif x then a else b
theorem s_if {tc : TT} {ta tb : TS} {t : Bool} {c : M Bool} {a b : MS} (hc : ∀ σ H Q, TTs X W XR t c σ H Q → tc σ H Q) (ha : ∀ Dn σ H, TSr X W XR fr a Dn σ H → ta Dn σ H) (hb : ∀ Dn σ H, TSr X W XR fr b Dn σ H → tb Dn σ H) :
    ∀ Dn σ H, TSr X W XR fr (ifM c a b) Dn σ H → tIfS tc ta tb Dn σ H := fun Dn σ H ⟨F, ρ, R, z⟩ =>
  hc _ _ _ ⟨F, ρ, R, Out.sat_mono (sat2 z) (fun x ρ1 k H1 R1 K1 => by
    have go : ∀ {m : MS}, (m ρ1).sat (fun f ρ' => match f with
        | .nx => ∀ σ' H', Rel X.prog X.w X.K F ρ' σ' H' → Dk ρ σ H ρ' σ' H' → Dn.nx σ' H'
        | .bk => ∀ σ' H', Rel X.prog X.w X.K F ρ' σ' H' → Dk ρ σ H ρ' σ' H' → Dn.bk σ' H'
        | .ct => ∀ σ' H', Rel X.prog X.w X.K F ρ' σ' H' → Dk ρ σ H ρ' σ' H' → Dn.ct σ' H'
        | .rt d => ∀ σ' v H', RetV X.prog X.w X.K fr F ρ' σ' H' v d → Dn.rt v H') (Xs X.prog X.w X.K W XR F) → TSr X W XR fr m Dn σ H1 := fun k => ⟨F, ρ1, R1, Out.sat_mono k (fun f ρ2 k => by
      cases f with
      | nx => exact fun σ2 H2 R2 K2 => k σ2 H2 R2 (K1.dk.trans K2)
      | bk => exact fun σ2 H2 R2 K2 => k σ2 H2 R2 (K1.dk.trans K2)
      | ct => exact fun σ2 H2 R2 K2 => k σ2 H2 R2 (K1.dk.trans K2)
      | rt d => exact k) fun _ _ _ h => h⟩
    cases x with
    | true => exact ha _ _ _ (go k)
    | false => exact hb _ _ _ (go k)) fun _ _ _ h => Xw_of h⟩
/-- at most n turns -/
def whM (c : M Bool) (b : MS) : Nat → MS
  | 0 => fun _ => .bad
  | n + 1 => M.bind c fun x => bif x then M.bind b fun f => match f with
    | .nx => whM c b n
    | .ct => whM c b n
    | .bk => M.pure .nx
    | .rt d => M.pure (.rt d) else M.pure .nx
open Classical in
/-- the number of turns may be any -/
noncomputable def whileM (c : M Bool) (b : MS) : MS := fun ρ => if h : ∃ n, ∃ f ρ', whM c b n ρ = .ok f ρ' then whM c b h.choose ρ else .bad
theorem whM_more {c : M Bool} {b : MS} : ∀ {n : Nat} {ρ ρ' : Env} {f : Fl}, whM c b n ρ = .ok f ρ' → whM c b (n + 1) ρ = .ok f ρ'
  | 0, _, _, _, h => by unfold whM at h; cases h
  | n + 1, ρ, ρ', f, h => by
    unfold whM M.bind at h ⊢
    cases e : c ρ with
    | ok x ρ1 =>
      rw [e] at h
      cases x with
      | false => exact h
      | true =>
        simp only [Out.bind, cond_true] at h ⊢
        cases e1 : b ρ1 with
        | ok g ρ2 =>
          rw [e1] at h
          cases g with
          | nx => exact whM_more h
          | ct => exact whM_more h
          | bk => exact h
          | rt d => exact h
        | ex c' ds ρ2 => rw [e1] at h; cases h
        | bad => rw [e1] at h; cases h
    | ex c' ds ρ1 => rw [e] at h; cases h
    | bad => rw [e] at h; cases h
theorem whileM_eq {c : M Bool} {b : MS} {n : Nat} {ρ ρ' : Env} {f : Fl} (h : whM c b n ρ = .ok f ρ') : whileM c b ρ = .ok f ρ' := by
  have ex : ∃ n, ∃ f ρ', whM c b n ρ = .ok f ρ' := ⟨n, f, ρ', h⟩
  unfold whileM
  rw [dif_pos ex]
  obtain ⟨g, ρ2, e⟩ := ex.choose_spec
  have up : ∀ (m : Nat) {k : Nat} {g : Fl} {ρ2 : Env}, whM c b k ρ = .ok g ρ2 → whM c b (k + m) ρ = .ok g ρ2 := fun m => by
    induction m with
    | zero => intro k g ρ2 e; exact e
    | succ m ih => intro k g ρ2 e; exact whM_more (ih e)
  have e1 := up n e
  have e2 := up ex.choose h
  rw [Nat.add_comm] at e2
  rw [e1] at e2
  rw [e, e2]
theorem s_while {tc : TT} {tb : TS} {t : Bool} {c : M Bool} {b : MS} (hc : ∀ σ H Q, TTs X W XR t c σ H Q → tc σ H Q) (hb : ∀ Dn σ H, TSr X W XR fr b Dn σ H → tb Dn σ H) :
    ∀ Dn σ H, TSr X W XR fr (whileM c b) Dn σ H → tWhile tc tb Dn σ H := fun Dn σ H ⟨F, ρ, R, z⟩ => by
  by_cases ex : ∃ n, ∃ f ρ', whM c b n ρ = .ok f ρ'
  case neg =>
    unfold whileM at z
    rw [dif_neg ex] at z
    exact z.elim
  obtain ⟨n, f, ρe, he⟩ := ex
  have z2 : (whM c b n ρ).sat (fun f ρ' => match f with
      | .nx => ∀ σ' H', Rel X.prog X.w X.K F ρ' σ' H' → Dk ρ σ H ρ' σ' H' → Dn.nx σ' H'
      | .bk => ∀ σ' H', Rel X.prog X.w X.K F ρ' σ' H' → Dk ρ σ H ρ' σ' H' → Dn.bk σ' H'
      | .ct => ∀ σ' H', Rel X.prog X.w X.K F ρ' σ' H' → Dk ρ σ H ρ' σ' H' → Dn.ct σ' H'
      | .rt d => ∀ σ' v H', RetV X.prog X.w X.K fr F ρ' σ' H' v d → Dn.rt v H') (Xs X.prog X.w X.K W XR F) := by rw [he, ← whileM_eq he]; exact z
  refine ⟨fun n σ1 H1 => ∃ ρ1, Rel X.prog X.w X.K F ρ1 σ1 H1 ∧ Dk ρ σ H ρ1 σ1 H1 ∧ (whM c b n ρ1).sat (fun f ρ' => match f with
      | .nx => ∀ σ' H', Rel X.prog X.w X.K F ρ' σ' H' → Dk ρ σ H ρ' σ' H' → Dn.nx σ' H'
      | .bk => ∀ σ' H', Rel X.prog X.w X.K F ρ' σ' H' → Dk ρ σ H ρ' σ' H' → Dn.bk σ' H'
      | .ct => ∀ σ' H', Rel X.prog X.w X.K F ρ' σ' H' → Dk ρ σ H ρ' σ' H' → Dn.ct σ' H'
      | .rt d => ∀ σ' v H', RetV X.prog X.w X.K fr F ρ' σ' H' v d → Dn.rt v H') (Xs X.prog X.w X.K W XR F), ⟨n, ρ, R, .refl, z2⟩, ?_⟩
  rintro m σ1 H1 ⟨ρ1, R1, K1, z1⟩
  cases m with
  | zero => exact z1.elim
  | succ m =>
    unfold whM at z1
    refine hc _ _ _ ⟨F, ρ1, R1, Out.sat_mono (sat2 z1) (fun x ρ2 k H2 R2 K2 => ?_) fun _ _ _ h => Xw_of h⟩
    have K12 := K1.trans K2.dk
    cases x with
    | false =>
      show (if false = true then _ else Dn.nx σ1 H2)
      rw [if_neg Bool.false_ne_true]
      exact k σ1 H2 R2 K12
    | true =>
      show (if true = true then _ else _)
      rw [if_pos rfl]
      refine ⟨_, fun σ' H' w => ⟨m, Nat.lt_succ_self m, w⟩, hb _ _ _ ⟨F, ρ2, R2, Out.sat_mono (sat2 k) (fun f ρ3 k3 => ?_) fun _ _ _ h => h⟩⟩
      cases f with
      | nx => exact fun σ3 H3 R3 K3 => ⟨ρ3, R3, K12.trans K3, k3⟩
      | ct => exact fun σ3 H3 R3 K3 => ⟨ρ3, R3, K12.trans K3, k3⟩
      | bk => exact fun σ3 H3 R3 K3 => k3 σ3 H3 R3 (K12.trans K3)
      | rt d => exact k3
/-- for -/
def foL (p : Pat) (b : MS) : List D → MS
  | [], ρ => .ok .nx ρ
  | d :: ds, ρ => match bindP p d ρ with
    | none => .bad
    | some ρ1 => (b ρ1).bind fun f ρ2 => match f with
      | .nx => foL p b ds ρ2
      | .ct => foL p b ds ρ2
      | .bk => .ok .nx ρ2
      | .rt d => .ok (.rt d) ρ2
def forM' (src : M (List D)) (p : Pat) (b : MS) : MS := M.bind src fun ds => foL p b ds
theorem s_for {wi : TI} {g : L2.TG} {tb : TS} {t : Bool} {src : M (List D)} {p : Pat} {b : MS} (hw : ∀ σ H R, ti (X := X) W XR false t src σ H R → wi σ H R) (hg : ∀ v σ H Q, gP X p v σ H Q → g v σ H Q) (hb : ∀ Dn σ H, TSr X W XR fr b Dn σ H → tb Dn σ H) :
    ∀ Dn σ H, TSr X W XR fr (forM' src p b) Dn σ H → tFor wi g tb Dn σ H := fun Dn σ H ⟨F, ρ, R, z⟩ =>
  hw _ _ _ ⟨F, ρ, R, Out.sat_mono (sat2 z) (fun ds ρ0 k J H0 R0 K0 wk => by
    refine ⟨fun i n σ1 H1 => n = ds.length - i ∧ i ≤ ds.length ∧ ∃ ρ1, Rel X.prog X.w X.K F ρ1 σ1 H1 ∧ Dk ρ0 σ H0 ρ1 σ1 H1 ∧ (foL p b (ds.drop i) ρ1).sat (fun f ρ' => match f with
        | .nx => ∀ σ' H', Rel X.prog X.w X.K F ρ' σ' H' → Dk ρ σ H ρ' σ' H' → Dn.nx σ' H'
        | .bk => ∀ σ' H', Rel X.prog X.w X.K F ρ' σ' H' → Dk ρ σ H ρ' σ' H' → Dn.bk σ' H'
        | .ct => ∀ σ' H', Rel X.prog X.w X.K F ρ' σ' H' → Dk ρ σ H ρ' σ' H' → Dn.ct σ' H'
        | .rt d => ∀ σ' v H', RetV X.prog X.w X.K fr F ρ' σ' H' v d → Dn.rt v H') (Xs X.prog X.w X.K W XR F), ⟨ds.length, by simp, Nat.zero_le _, ρ0, R0, .refl, k⟩, ?_⟩
    rintro i n σ1 H1 ⟨rfl, hi, ρ1, R1, K1, z1⟩
    obtain ⟨goes, stops, yields⟩ := wk (Al F ρ1 σ1) H1 K1.al fun a o s e => s.elim (fun y => nomatch y) fun y => (K1 a o e y.1).1
    by_cases hlt : i < ds.length
    · refine .inr ⟨goes i hlt, _, fun σ' H' w => ⟨ds.length - (i + 1), by omega, w⟩, fun x H2 y => ?_⟩
      obtain ⟨gr, yd⟩ := yields i x H2 hlt y
      obtain ⟨d, ed, dd⟩ := yd (Al F ρ1 σ1) (fun _ s => s) fun a e => R1.new e
      have edr : ds.drop i = d :: ds.drop (i + 1) := by rw [List.drop_eq_getElem_cons hlt]; congr 1; exact (List.getElem?_eq_some_iff.mp ed).2
      rw [edr] at z1
      unfold foL at z1
      cases eb : bindP p d ρ1 with
      | none => rw [eb] at z1; exact z1.elim
      | some ρ2 =>
        rw [eb] at z1
        refine hg _ _ _ _ ⟨F, ρ1, d, ρ2, R1.grow gr, dd, eb, fun σ2 R2 K2 _ _ => hb _ _ _ ⟨F, ρ2, R2, Out.sat_mono (Out.sat_bind.mp z1) (fun f ρ3 k3 => ?_) fun _ _ _ h => h⟩⟩
        have K12 : Dk ρ0 σ H0 ρ2 σ2 H2 := (K1.trans (fun c o e h => ⟨gr c o e, h⟩ : Dk ρ1 σ1 H1 ρ1 σ1 H2)).trans K2
        cases f with
        | nx => exact fun σ3 H3 R3 K3 => ⟨rfl, hlt, ρ3, R3, K12.trans K3, k3⟩
        | ct => exact fun σ3 H3 R3 K3 => ⟨rfl, hlt, ρ3, R3, K12.trans K3, k3⟩
        | bk => exact fun σ3 H3 R3 K3 => k3 σ3 H3 R3 (K0.dk.trans (K12.trans K3))
        | rt d => exact k3
    · have e : i = ds.length := by omega
      subst e
      rw [List.drop_length] at z1
      exact .inl ⟨stops, z1 σ1 H1 R1 (K0.dk.trans K1)⟩) fun _ _ _ h => Xw_of h⟩
end
end Rf
end
section
set_option Elab.async false
set_option linter.all false
set_option maxRecDepth 100000
set_option maxHeartbeats 2000000
/-! Rf, part J: what changes a list; assignments of several names. -/
namespace Rf
open PySem PySem.Spec L2
section
variable {X : Cx} {W : WX} {XR : XRep} {fr : Bool}
def Sl.val : Sl → Option D
  | .mu d | .io d => some d
  | _ => none
def Sl.withV : Sl → D → Sl
  | .mu _, d => .mu d
  | .io _, d => .io d
  | s, _ => s
def upM (ρ : Env) (i : Nat) (d : D) : Env := ρ.put i ((ρ i).withV d)
theorem upM_M {ρ : Env} {i j : Nat} {d : D} : ((upM ρ i d) j).isM = (ρ j).isM := by
  unfold upM
  by_cases h : j = i
  · subst h
    rw [put_same]
    cases ρ j <;> rfl
  · rw [put_ne h]
theorem mut_upM {ρ : Env} {i : Nat} {d : D} {σ : Sg} {b : Addr} : MutA (upM ρ i d) σ b ↔ MutA ρ σ b := by
  unfold MutA
  simp only [upM_M]
theorem al_upM {F : Fr} {ρ : Env} {i : Nat} {d : D} {σ : Sg} : Al F (upM ρ i d) σ = Al F ρ σ := by
  funext b
  unfold Al
  rw [mut_upM]
theorem Rel.there {F : Fr} {ρ : Env} {σ : Sg} {H : Hp} {i : Nat} {d : D} (R : Rel X.prog X.w X.K F ρ σ H) (e : (ρ i).val = some d) : ∃ a, σ[i]? = some (some (.ref a)) ∧ Ob X.prog X.w X.K (Al F ρ σ) H a d ∧ (ρ i).isM = true := by
  cases h : ρ i with
  | mu c =>
    rw [h] at e
    cases e
    obtain ⟨a, h1, h2, _⟩ := R.mu i d h
    exact ⟨a, h1, h2, rfl⟩
  | io c =>
    rw [h] at e
    cases e
    obtain ⟨a, h1, h2, _⟩ := R.io i d h
    exact ⟨a, h1, h2, rfl⟩
  | _ => rw [h] at e; cases e
/-- a list or dict of the frame's is changed, and the heap has grown -/
theorem Rel.writeG {F : Fr} {ρ : Env} {σ : Sg} {H H' : Hp} {i : Nat} {a : Addr} {d : D} (R : Rel X.prog X.w X.K F ρ σ H) (hm : (ρ i).isM = true) (hs : σ[i]? = some (some (.ref a))) (k : ∀ b o, b ≠ a → H b = some o → H' b = some o) (ob : Ob X.prog X.w X.K (Al F ρ σ) H' a d) :
    Rel X.prog X.w X.K F (upM ρ i d) σ H' ∧ Kp true ρ (upM ρ i d) σ H H' := by
  have ma : MutA ρ σ a := ⟨i, hm, hs⟩
  have al : ∀ b o', Al F ρ σ b → H b = some o' → Al F (upM ρ i d) σ b ∧ H' b = some o' := fun b o' s q => ⟨by rw [al_upM]; exact s, k b o' (fun z => s.2 (by rw [z]; exact ma)) q⟩
  have ot : ∀ {j b}, j ≠ i → (ρ j).isM = true → σ[j]? = some (some (.ref b)) → b ≠ a := fun {j b} hj h1 h2 z => R.sep j i a hj h1 hm (by rw [← z]; exact h2) hs
  have obu : ∀ {b c}, b ≠ a → Ob X.prog X.w X.K (Al F ρ σ) H b c → Ob X.prog X.w X.K (Al F (upM ρ i d) σ) H' b c := fun {b c} hb x => x.mono al fun o' z => k b o' hb z
  refine ⟨⟨fun j c e => ?_, fun j c e => ?_, fun j c e => ?_, fun j c e => ?_, fun j k b hjk p1 p2 => R.sep j k b hjk (by rw [upM_M] at p1; exact p1) (by rw [upM_M] at p2; exact p2), fun p hp => ?_, fun b e => R.fresh b ?_, fun b o' e hp => ?_⟩, ⟨fun j h => by rw [upM_M] at h; exact h, fun b o' e h => k b o' (fun z => h rfl (by rw [z]; exact ma)) e, fun b o' e => ?_⟩⟩
  · by_cases z : j = i
    · subst z
      unfold upM at e
      rw [put_same] at e
      cases h : ρ j <;> rw [h] at e hm <;> cases e <;> cases hm
    · unfold upM at e
      rw [put_ne z] at e
      obtain ⟨v, h1, h2⟩ := R.im j c e
      exact ⟨v, h1, Dn.mono al h2⟩
  · by_cases z : j = i
    · subst z
      unfold upM at e
      rw [put_same] at e
      cases h : ρ j with
      | mu c' =>
        rw [h] at e
        cases e
        obtain ⟨b, h1, h2, h3⟩ := R.mu j c' h
        rw [hs] at h1
        cases h1
        exact ⟨a, hs, by rw [al_upM]; exact ob, h3⟩
      | _ => rw [h] at e; cases e
    · unfold upM at e
      rw [put_ne z] at e
      obtain ⟨b, h1, h2, h3⟩ := R.mu j c e
      exact ⟨b, h1, obu (ot z (by rw [e]; rfl) h1) h2, h3⟩
  · by_cases z : j = i
    · subst z
      unfold upM at e
      rw [put_same] at e
      cases h : ρ j with
      | io c' =>
        rw [h] at e
        cases e
        obtain ⟨b, h1, h2, h3⟩ := R.io j c' h
        rw [hs] at h1
        cases h1
        exact ⟨a, hs, by rw [al_upM]; exact ob, h3⟩
      | _ => rw [h] at e; cases e
    · unfold upM at e
      rw [put_ne z] at e
      obtain ⟨b, h1, h2, h3⟩ := R.io j c e
      exact ⟨b, h1, obu (ot z (by rw [e]; rfl) h1) h2, h3⟩
  · have e' : ρ j = .bo c := by
      by_cases z : j = i
      · subst z
        unfold upM at e
        rw [put_same] at e
        cases h : ρ j <;> rw [h] at e hm <;> cases e <;> cases hm
      · unfold upM at e
        rw [put_ne z] at e
        exact e
    obtain ⟨v, h1, h2⟩ := R.bo j c e'
    refine ⟨v, h1, ?_⟩
    rcases h2 with h2 | ⟨b, r1, r2, r3, r4, o', r5⟩
    · exact .inl (Dn.mono al h2)
    · have hb : b ≠ a := fun z => r3 (by rw [z]; exact ma)
      exact .inr ⟨b, r1, r2.mono al fun o' z => k b o' hb z, fun z => r3 (mut_upM.mp z), r4, o', k b o' hb r5⟩
  · obtain ⟨⟨c, hc⟩, hs'⟩ := R.ioin p hp
    refine ⟨?_, hs'⟩
    by_cases z : p.1 = i
    · refine ⟨d, ?_⟩
      unfold upM
      rw [z, put_same, ← z, hc]
      rfl
    · refine ⟨c, ?_⟩
      unfold upM
      rw [put_ne z]
      exact hc
  · cases q : H b with
    | none => rfl
    | some o' =>
      by_cases z : b = a
      · subst z
        obtain ⟨o2, q2⟩ := ob.there
        rw [e] at q2
        cases q2
      · rw [k b o' z q] at e; cases e
  · have hb : b ≠ a := fun z => by
      subst z
      cases h : ρ i with
      | mu c =>
        obtain ⟨b', h1, _, h3, _⟩ := R.mu i c h
        rw [hs] at h1
        cases h1
        rw [h3] at e
        cases e
      | io c =>
        obtain ⟨b', h1, _, h3⟩ := R.io i c h
        rw [hs] at h1
        cases h1
        exact hp _ h3 rfl
      | _ => rw [h] at hm; cases hm
    exact k b o' hb (R.ent b o' e hp)
  · by_cases z : b = a
    · subst z; exact ob.there
    · exact ⟨o', k b o' z e⟩
theorem Rel.write {F : Fr} {ρ : Env} {σ : Sg} {H : Hp} {i : Nat} {a : Addr} {d : D} {o : HO} (R : Rel X.prog X.w X.K F ρ σ H) (hm : (ρ i).isM = true) (hs : σ[i]? = some (some (.ref a))) (ob : Ob X.prog X.w X.K (Al F ρ σ) (upd H a o) a d) :
    Rel X.prog X.w X.K F (upM ρ i d) σ (upd H a o) ∧ Kp true ρ (upM ρ i d) σ H (upd H a o) := R.writeG hm hs (fun b o' h e => by rw [upd_ne h]; exact e) ob
/-- the own list of a slot -/
def ownL (ρ : Env) (i : Nat) : Option (List D) := match (ρ i).val with
  | some (.list ds) => some ds
  | _ => none
theorem ownL_of {F : Fr} {ρ : Env} {σ : Sg} {H : Hp} {i : Nat} {ds : List D} (R : Rel X.prog X.w X.K F ρ σ H) (e : ownL ρ i = some ds) : ∃ a xs, σ[i]? = some (some (.ref a)) ∧ H a = some (.lst xs) ∧ DnAll X.prog X.w X.K (Al F ρ σ) H xs ds ∧ (ρ i).isM = true := by
  unfold ownL at e
  split at e
  · rename_i es h
    cases e
    obtain ⟨a, h1, ⟨xs, h2, h3⟩, h4⟩ := R.there h
    exact ⟨a, xs, h1, h2, h3, h4⟩
  · cases e
theorem Rel.writeL {F : Fr} {ρ : Env} {σ : Sg} {H : Hp} {i : Nat} {a : Addr} {xs : List V} {ds : List D} (R : Rel X.prog X.w X.K F ρ σ H) (hm : (ρ i).isM = true) (hs : σ[i]? = some (some (.ref a))) (h : DnAll X.prog X.w X.K (Al F ρ σ) H xs ds) :
    Rel X.prog X.w X.K F (upM ρ i (.list ds)) σ (upd H a (.lst xs)) ∧ Kp true ρ (upM ρ i (.list ds)) σ H (upd H a (.lst xs)) :=
  R.write hm hs ⟨xs, upd_same, DnAll.mono (fun b o s e => ⟨s, by rw [upd_ne fun z => s.2 (by rw [z]; exact ⟨i, hm, hs⟩)]; exact e⟩) h⟩
theorem Kp.trueR {ρ ρ' ρ'' : Env} {σ : Sg} {H H' H'' : Hp} {t : Bool} (a : Kp t ρ ρ' σ H H') (b : Kp true ρ' ρ'' σ H' H'') : Kp true ρ ρ'' σ H H'' := by
  have z := a.trans b
  rw [Bool.or_true] at z
  exact z

/-! ### append, extend, pop -/
/-- the slot i holds an own list, then m -/
def onL {α : Type} (i : Nat) (m : M α) : M α := fun ρ => match ownL ρ i with
  | some _ => m ρ
  | none => .bad
theorem onL_sat {α : Type} {i : Nat} {m : M α} {ρ : Env} {k : α → Env → Prop} {e : Nat → List D → Env → Prop} (h : (onL i m ρ).sat k e) : (∃ ds, ownL ρ i = some ds) ∧ (m ρ).sat k e := by
  unfold onL at h
  split at h
  · rename_i ds e; exact ⟨⟨ds, e⟩, h⟩
  · exact h.elim
def appM (i : Nat) (m : M D) : M D := onL i (M.bind m fun d => fun ρ => match ownL ρ i with
  | some ds => if szOk (ds.length + 1) then .ok .none (upM ρ i (.list (ds ++ [d]))) else .bad
  | none => .bad)
theorem t_app {te : TE} {t : Bool} {i : Nat} {m : M D} (h : ∀ σ H Q, TG X W XR false t m σ H Q → te σ H Q) : ∀ σ H Q, TG X W XR false true (appM i m) σ H Q → tBM X.K "list" rAppend (tVar i) (tCons te tNil) σ H Q := fun σ H Q ⟨F, ρ, R, z⟩ => by
  obtain ⟨⟨ds, e⟩, z⟩ := onL_sat z
  obtain ⟨a, xs, h1, h2, _, _⟩ := ownL_of R e
  refine ⟨_, h1, .inl ⟨rfl, _, SqL.of h2⟩, h _ _ _ ⟨F, ρ, R, Out.sat_mono (sat2 z) (fun d ρ1 k v H1 R1 K1 D1 => ?_) fun _ _ _ h => h⟩⟩
  cases e1 : ownL ρ1 i with
  | none => simp only [e1] at k; exact k.elim
  | some es =>
    simp only [e1] at k
    split at k
    · rename_i hz
      obtain ⟨b, ys, q1, q2, q3, q4⟩ := ownL_of R1 e1
      rw [h1] at q1
      cases q1
      have n1 := q3.length
      have n2 := szOk_le hz
      obtain ⟨R2, K2⟩ := R1.writeL q4 h1 (q3.append (.cons D1 .nil))
      exact ⟨a, ys, v, rfl, rfl, q2, by omega, k .non _ R2 (K1.trueR K2) (.non)⟩
    · exact k.elim
def extM (i : Nat) (m : M D) : M D := onL i (M.bind m fun d => fun ρ => match ownL ρ i, d with
  | some ds, .list es => if szOk (ds.length + es.length) then .ok .none (upM ρ i (.list (ds ++ es))) else .bad
  | _, _ => .bad)
theorem t_ext {te : TE} {t : Bool} {i : Nat} {m : M D} (h : ∀ σ H Q, TF X W XR t m σ H Q → te σ H Q) : ∀ σ H Q, TG X W XR false true (extM i m) σ H Q → tBM X.K "list" rExtend (tVar i) (tCons te tNil) σ H Q := fun σ H Q ⟨F, ρ, R, z⟩ => by
  obtain ⟨⟨ds, e⟩, z⟩ := onL_sat z
  obtain ⟨a, xs, h1, h2, _, _⟩ := ownL_of R e
  refine ⟨_, h1, .inl ⟨rfl, _, SqL.of h2⟩, h _ _ _ ⟨F, ρ, R, Out.sat_mono (sat2 z) (fun d ρ1 k b H1 R1 K1 n ob => ?_) fun _ _ _ h => h⟩⟩
  have R1' := R1.but fun _ => R.fresh b n
  cases e1 : ownL ρ1 i with
  | none => simp only [e1] at k; exact k.elim
  | some es =>
    simp only [e1] at k
    cases d with
    | list fs =>
      simp only at k
      split at k
      · rename_i hz
        obtain ⟨c, ys, q1, q2, q3, q4⟩ := ownL_of R1' e1
        rw [h1] at q1
        cases q1
        obtain ⟨zs, o1, o2⟩ := ob
        have n1 := q3.length
        have n2 := o2.length
        have n3 := szOk_le hz
        obtain ⟨R2, K2⟩ := R1'.writeL q4 h1 (q3.append (DnAll.mono (fun b o s e => ⟨Fr.but_le b s, e⟩) o2))
        exact ⟨a, b, ys, zs, rfl, rfl, q2, o1, by omega, k .non _ R2 (K1.trueR K2) (.non)⟩
      · exact k.elim
    | _ => exact k.elim
/-- xs.pop(k), k from the front -/
def popM (i : Nat) (m : M D) : M D := onL i (M.bind m fun d => fun ρ => match ownL ρ i, d with
  | some ds, .int (.ofNat n) => match ds[n]? with
    | some x => if szOk ds.length then .ok x (upM ρ i (.list (ds.eraseIdx n))) else .bad
    | none => .bad
  | _, _ => .bad)
theorem t_pop {te : TE} {t : Bool} {i : Nat} {m : M D} (h : ∀ σ H Q, TG X W XR false t m σ H Q → te σ H Q) : ∀ σ H Q, TG X W XR false true (popM i m) σ H Q → tBM X.K "list" rPopAt (tVar i) (tCons te tNil) σ H Q := fun σ H Q ⟨F, ρ, R, z⟩ => by
  obtain ⟨⟨ds, e⟩, z⟩ := onL_sat z
  obtain ⟨a, xs, h1, h2, _, _⟩ := ownL_of R e
  refine ⟨_, h1, .inl ⟨rfl, _, SqL.of h2⟩, h _ _ _ ⟨F, ρ, R, Out.sat_mono (sat2 z) (fun d ρ1 k v H1 R1 K1 D1 => ?_) fun _ _ _ h => h⟩⟩
  cases e1 : ownL ρ1 i with
  | none => simp only [e1] at k; exact k.elim
  | some es =>
    simp only [e1] at k
    cases d with
    | int j =>
      cases j with
      | ofNat n =>
        simp only at k
        cases e2 : es[n]? with
        | none => rw [e2] at k; exact k.elim
        | some x =>
          rw [e2] at k
          simp only at k
          split at k
          · rename_i hz
            cases D1
            obtain ⟨b, ys, q1, q2, q3, q4⟩ := ownL_of R1 e1
            rw [h1] at q1
            cases q1
            obtain ⟨y, e3, e4⟩ := q3.get' e2
            have hn := (List.getElem?_eq_some_iff.mp e3).1
            have n1 := q3.length
            have n2 := szOk_le hz
            have hb : sizeLine ≤ 2 ^ 62 := by rw [sizeLine_eq]; decide
            obtain ⟨R2, K2⟩ := R1.writeL q4 h1 (q3.erase n)
            have al : ∀ b o, Al F ρ1 σ b → H1 b = some o → Al F (upM ρ1 i (.list (es.eraseIdx n))) σ b ∧ upd H1 a (.lst (ys.eraseIdx n)) b = some o := fun b o s e => ⟨by rw [al_upM]; exact s, K2.kp b o e fun _ => s.2⟩
            refine ⟨a, ys, (n : Nat), n, y, rfl, rfl, q2, by omega, by omega, ?_, e3, k y _ R2 (K1.trueR K2) (Dn.mono al e4)⟩
            rw [seqIndex_of (by omega) (by omega)]
            simp
          · exact k.elim
      | negSucc n => exact k.elim
    | _ => exact k.elim
/-- xs[k] = v -/
def setLM (i : Nat) (mi m : M D) : MS := M.bind m fun d => onL i (M.bind mi fun k => fun ρ => match ownL ρ i, k with
  | some ds, .int j => match ixN ds.length j with
    | some n => .ok .nx (upM ρ i (.list (ds.set n d)))
    | none => .bad
  | _, _ => .bad)
theorem s_setL {te tx : TE} {t s : Bool} {i : Nat} {mi m : M D} (h : ∀ σ H Q, TG X W XR false t m σ H Q → te σ H Q) (hi : ∀ σ H Q, TG X W XR false s mi σ H Q → tx σ H Q) :
    ∀ En σ H, TSr X W XR fr (setLM i mi m) En σ H → tAsg te (gSub (tVar i) tx rSetL) En σ H := fun En σ H ⟨F, ρ, R, z⟩ => by
  refine h _ _ _ ⟨F, ρ, R, Out.sat_mono (sat2 z) (fun d ρ1 k v H1 R1 K1 D1 => ?_) fun _ _ _ h => Xw_of h⟩
  obtain ⟨⟨ds, e⟩, k⟩ := onL_sat k
  obtain ⟨a, xs, h1, h2, _, _⟩ := ownL_of R1 e
  refine ⟨_, h1, hi _ _ _ ⟨F, ρ1, R1, Out.sat_mono (sat2 k) (fun j ρ2 k w H2 R2 K2 D2 => ?_) fun _ _ _ h => Xw_of h⟩⟩
  have Dv := Dn.kp K2 D1
  cases e1 : ownL ρ2 i with
  | none => simp only [e1] at k; exact k.elim
  | some es =>
    simp only [e1] at k
    cases j with
    | int j =>
      simp only at k
      cases e2 : ixN es.length j with
      | none => rw [e2] at k; exact k.elim
      | some n =>
        rw [e2] at k
        cases D2
        obtain ⟨b, ys, q1, q2, q3, q4⟩ := ownL_of R2 e1
        rw [h1] at q1
        cases q1
        obtain ⟨R3, K3⟩ := R2.writeL q4 h1 (q3.set Dv n)
        exact ⟨a, ys, j, n, rfl, rfl, q2, by rw [q3.length]; exact e2, k σ _ R3 ((K1.dk.trans K2.dk).trans K3.dk)⟩
    | _ => exact k.elim

/-! ### two names at once -/
def sl1 (b : Bool) (d : D) : Sl := bif b then .mu d else .im d
/-- the reading of a value: data, or the frame's own -/
def TX (X : Cx) (W : WX) (XR : XRep) (b t : Bool) (m : M D) : TE := bif b then TF X W XR t m else TG X W XR false t m
/-- how such a value stands -/
def Vx (X : Cx) (b : Bool) (F : Fr) (ρ : Env) (σ : Sg) (H H' : Hp) (v : V) (d : D) (F' : Fr) : Prop := if b = true then ∃ a, v = .ref a ∧ H a = none ∧ F' = F.but a ∧ Ob X.prog X.w X.K (Al F' ρ σ) H' a d else F' = F ∧ Dn X.prog X.w X.K (Al F ρ σ) H' v d
theorem tx_run {b t : Bool} {m : M D} {σ : Sg} {H : Hp} {Q : VK} {F : Fr} {ρ : Env} (R : Rel X.prog X.w X.K F ρ σ H)
    (z : (m ρ).sat (fun d ρ' => ∀ v H' F', Rel X.prog X.w X.K F' ρ' σ H' → Kp t ρ ρ' σ H H' → Vx X b F ρ' σ H H' v d F' → Q v H') (Xw X.prog X.w X.K W XR F σ)) : TX X W XR b t m σ H Q := by
  cases b with
  | true => exact ⟨F, ρ, R, Out.sat_mono z (fun d ρ' k a H' R' K' n ob => k _ H' (F.but a) R' K' (by unfold Vx; rw [if_pos rfl]; exact ⟨a, rfl, n, rfl, ob⟩)) fun _ _ _ h => h⟩
  | false => exact ⟨F, ρ, R, Out.sat_mono z (fun d ρ' k v H' R' K' n => k v H' F R' K' (by unfold Vx; rw [if_neg Bool.false_ne_true]; exact ⟨rfl, n⟩)) fun _ _ _ h => h⟩
/-- the slot i gets such a value, which came some time ago -/
theorem Vx.set {b : Bool} {F F' : Fr} {ρ0 ρ1 ρ : Env} {σ0 σ : Sg} {H0 H1 H : Hp} {v : V} {d : D} {i : Nat} {t : Bool} (R0 : Rel X.prog X.w X.K F ρ0 σ0 H0) (K0 : Kp t ρ0 ρ1 σ0 H0 H1) (x : Vx X b F ρ1 σ0 H0 H1 v d F') (R : Rel X.prog X.w X.K F' ρ σ H) (k : Dk ρ1 σ0 H1 ρ σ H)
    (hi : i < σ.length) (hn : notIo (ρ i) = true) : Rel X.prog X.w X.K F (ρ.put i (sl1 b d)) (σ.set i (some v)) H ∧ Dk ρ0 σ0 H0 (ρ.put i (sl1 b d)) (σ.set i (some v)) H := by
  have kk := K0.dk.trans k
  cases b with
  | true =>
    unfold Vx at x
    rw [if_pos rfl] at x
    obtain ⟨a, rfl, n, rfl, ob⟩ := x
    have nm : ¬ MutA ρ1 σ0 a := fun ⟨j, h1, h2⟩ => by
      obtain ⟨o, q⟩ := R0.mutThere ⟨j, K0.le j h1, h2⟩
      rw [n] at q
      cases q
    obtain ⟨o, ho⟩ := ob.there
    have q := k a o ho nm
    have ob' : Ob X.prog X.w X.K (Al (F.but a) ρ σ) H a d := ob.mono k.al fun o' z => (k a o' z nm).1
    refine ⟨R.setMu hi hn (R0.none0 n) (R0.fresh a n) q.2 ob', fun c o' e h => ?_⟩
    obtain ⟨h1, h2⟩ := kk c o' e h
    refine ⟨h1, fun ⟨j, q1, q2⟩ => ?_⟩
    by_cases z : j = i
    · subst z
      rw [List.getElem?_set_self hi] at q2
      cases q2
      rw [n] at e
      cases e
    · rw [put_ne z] at q1
      rw [List.getElem?_set_ne (Ne.symm z)] at q2
      exact h2 ⟨j, q1, q2⟩
  | false =>
    unfold Vx at x
    rw [if_neg Bool.false_ne_true] at x
    obtain ⟨rfl, dn⟩ := x
    obtain ⟨R2, K2⟩ := R.setIm hi hn (Dn.mono k.al dn)
    exact ⟨R2, kk.trans K2⟩
def par2 (i j : Nat) (b c : Bool) (m n : M D) : MS := M.bind m fun d => M.bind n fun e => fun ρ => if (notIo (ρ i) && notIo (ρ j)) = true then .ok .nx ((ρ.put j (sl1 c e)).put i (sl1 b d)) else .bad
theorem t_par2 {te tf : TE} {i j : Nat} {b c t s : Bool} {m n : M D} (hij : i ≠ j) (he : ∀ σ H Q, TX X W XR b t m σ H Q → te σ H Q) (hf : ∀ σ H Q, TX X W XR c s n σ H Q → tf σ H Q) {En : Ends} {σ : Sg} {H : Hp} (hi : i < σ.length) (hj : j < σ.length)
    (h : TSr X W XR fr (par2 i j b c m n) En σ H) : te σ H fun v H1 => tf σ H1 fun w H2 => ∃ v' w', [v, w] = [v', w'] ∧ En.nx ((σ.set i (some v')).set j (some w')) H2 := by
  obtain ⟨F, ρ, R, z⟩ := h
  refine he _ _ _ (tx_run R (Out.sat_mono (sat2 z) (fun d ρ1 k v H1 F1 R1 K1 x1 => hf _ _ _ (tx_run R1 (Out.sat_mono (sat2 k) (fun e ρ2 k2 w H2 F2 R2 K2 x2 => ?_) fun c ds ρ' h cls dd H' R' y => ?_))) fun _ _ _ h => Xw_of h))
  · split at k2
    · rename_i hz
      rw [Bool.and_eq_true] at hz
      obtain ⟨R3, K3⟩ := Vx.set R1 K2 x2 R2 .refl hj hz.2
      obtain ⟨R4, K4⟩ := Vx.set (i := i) R K1 x1 R3 K3 (by rw [List.length_set]; exact hi) (by rw [put_ne hij]; exact hz.1)
      rw [List.set_comm _ _ (Ne.symm hij)] at R4 K4
      exact ⟨v, w, rfl, k2 _ H2 R4 K4⟩
    · exact k2.elim
  · -- an exception of the second: the first is forgotten
    refine h σ cls dd H' ?_ y
    cases b with
    | true =>
      unfold Vx at x1
      rw [if_pos rfl] at x1
      obtain ⟨a, _, q, rfl, _⟩ := x1
      exact R'.but fun _ => R.fresh a q
    | false =>
      unfold Vx at x1
      rw [if_neg Bool.false_ne_true] at x1
      obtain ⟨rfl, _⟩ := x1
      exact R'
end
end Rf
end
section
set_option Elab.async false
set_option linter.all false
set_option maxRecDepth 100000
set_option maxHeartbeats 4000000
/-! Rf, part Z: an exception class with an __init__ of its own, over any built-in one. -/
namespace Rf
open PySem PySem.Spec PyProof.Rows L2
section
open PySem.Builtin PySem.Builtin.ObjectAttr PySem.HandSPX
variable {prog : Program} {w : World} {A : Around} {E : Value → Shared → Prop} {R : Result → Shared → Prop} {hp : Heap} {g : Array GenState} {d : Drawn} {t : Nat} {os : OsState}
/-- object.__setattr__ at an exception that has no dict yet -/
theorem osa_g {K : PySem.W.Frag} {name : Str} {tk : Tok} {v : Value} {x C : Addr} {fv : Array Value} {cd : ClassData} {tail : List Value} (X : K.In hp) (hx : hp.get? x = some { cls := .ref C, data := .fields fv }) (hcd : PySem.W.clsIn K C = some cd) (hm : cd.mro = .ref C :: tail)
    (hps : ∀ self, refuseLoop self "__setattr__" tail = pure ()) (hob : tail.contains (.type "object") = true) (hh : cd.hasDict = true) (ha : PySem.W.findIn K (.ref C) name = some none)
    (hq : ∀ h' tk' dx, (∀ b o, b ≠ x → hp.get? b = some o → h'.get? b = some o) → hp.objs.size ≤ dx → dx ≠ x → h'.get? x = some { cls := .ref C, dict := some dx, data := .fields fv } → h'.Ns1 dx (fun y => if y = name then some v else none) → R (.ok (.ret .none)) ⟨h', g, d, tk', os⟩) :
    codeAny (model prog w) A (.call (.builtin "object.__setattr__") ⟨[.ref x, .str name tk, v], []⟩) R ⟨hp, g, d, t, os⟩ := by
  have SF := F.store_object
  have J : PySem.W.InstAt hp x { cls := .ref C, data := .fields fv } C none := ⟨hx, rfl, rfl, trivial⟩
  have ne : cd.mro.isEmpty = false := by rw [hm]; rfl
  have ho : cd.mro.contains (.type "object") = true := by rw [hm, List.contains_cons, hob]; simp
  have hxs : x ≠ hp.objs.size := Nat.ne_of_lt (Heap.lt_size hx)
  have sub : PySem.W.Looks (model prog w) hp (isInstance (.ref x) (.type "object")) true := J.type.andThen (PySem.W.looks_mroIn X (by unfold PySem.W.mroIn; rw [hcd, Option.bind_some, if_neg (by rw [ne]; decide), ho]))
  refine codeAny_call_builtin SF.slot.plain SF.entry (@PySem.W.check_slot (model prog w) _ _ ⟨hp, g, d, t, os⟩ "object.__setattr__" "object" "__setattr__" (.ref x) [.str name tk, v] [] _ SF.kind SF.split sub (SF.args (.ref x) (.str name tk) v) ?_)
  have hmr : PySem.W.Looks (model prog w) hp (mroOf (.ref C)) cd.mro := (PySem.W.looks_clsIn X hcd).andThen .now
  have L3 : PySem.W.Looks (model prog w) hp (storeTaker? none) none := .now
  have hcls : PySem.W.Looks (model prog w) hp (classData C) cd := PySem.W.looks_clsIn X hcd
  rw [PySem.W.osa_eq, refuse_eq]
  refine wpAny_bind (wpAny_bind (J.type.at (wpAny_bind (hmr.at ?_))))
  rw [hm, refuseLoop_ref, hps]
  refine wpAny_pure (wpAny_bind (J.type.at (wpAny_bind ((PySem.W.looks_findIn X ha).at (wpAny_bind (L3.at ?_))))))
  show wpAny _ _ (storeInOwnDict (.ref x) (.ref C) (.str name tk) name v false) _ _ _
  obtain ⟨nm, bs, mro, ns, qn, hd, sn, sb, ab, col, del⟩ := cd
  dsimp only at hh
  subst hh
  unfold storeInOwnDict ownDictForStores
  repeat (first | with_reducible refine store_in_new ?_ ?_ | with_reducible refine wpAny_loadPart_at hx ?_ | with_reducible refine hcls.at ?_ | wp_step)
  · exact ⟨_, #[], _, (Heap.get?_update_ne _ _ _ _ hxs.symm).trans (Heap.get?_push_at rfl rfl), rfl, fun e he => absurd he (by simp), fun _ => rfl⟩
  · intro h' tk' hn' hs
    have h1 : (hp.push { cls := .type "dict", data := .dict #[] }).get? x = some { cls := .ref C, data := .fields fv } := Heap.get?_push_of_some _ hx
    refine hq h' tk' hp.objs.size (fun b o hb ho => ?_) (Nat.le_refl _) hxs.symm ?_ hn'
    · exact (hs.2 b (Nat.ne_of_lt (Heap.lt_size ho))).trans ((Heap.get?_update_ne _ _ _ _ hb).trans (Heap.get?_push_of_some _ ho))
    · exact (hs.2 x hxs).trans (Heap.get?_update_self _ h1 rfl)
end
/-- what the written part says of such a class -/
structure ExO (K : PySem.W.Frag) (C : Addr) (newId : String) (tail : List Value) : Prop where
  cls : ∃ nm q N bs sn sub ab col dd k0 k1 k2 k3 k5, K.lookup C = some (excClassObj nm q C N bs tail true sn sub ab col dd k0 k1 k2 k3 k5 newId)
  sa : PySem.W.findIn K (.ref C) "__setattr__" = some (some (.builtin "object.__setattr__"))
  exC : PySem.W.subIn K (.ref C) (.type "BaseException") = some true
  tyC : PySem.W.typeIn K (.ref C) = some (.type "type")
  kC : PySem.W.keepIn K (.ref C) = true
/-- what a built-in exception class gives -/
structure ExBase (newId : String) (tail : List Value) : Prop where
  ps : ∀ self, refuseLoop self "__setattr__" tail = pure ()
  ob : tail.contains (.type "object") = true
theorem exBase_lookup : ExBase "LookupError.__new__" [.type "LookupError", .type "Exception", .type "BaseException", .type "object"] := ⟨fun self => F.store_LookupError.passes self, by decide +kernel⟩
section
variable {X : Cx} {pins : List (Addr × Obj)} {σ : Sg} {H : Hp} {s : Shared} {a C dx : Addr} {f : Str} {y : V} {u : Value} {fs : List (Str × V)} {Q : Unit → Shared → Prop} {E : Value → Shared → Prop} {A : Around} {newId : String} {tail : List Value}
/-- self.f = y -/
theorem put_first (T : ExO X.K C newId tail) (B : ExBase newId tail) (I : Inv X pins σ H s) (e : H a = some (exo a C none)) (hno : PySem.W.findIn X.K (.ref C) f = some none) (ry : RelV y u)
    (h : ∀ dx s', H dx = none → dx ≠ a → Inv X pins σ (upd (upd H dx (exd dx [(f, y)])) a (exo a C (some dx))) s' → Q () s') : wpAny (model X.prog X.w) A (setAttr (.ref a) f u) Q E s := by
  obtain ⟨nm, q, N, bs, sn, sub, ab, col, dd, k0, k1, k2, k3, k5, hC⟩ := T.cls
  have hcl : PySem.W.clsIn X.K C = some { name := nm, bases := bs, mro := .ref C :: tail, ns := N, qualname := q, hasDict := true, slotNames := sn, subclasses := sub, abstract := ab, collection := col, hasDel := false } := by unfold PySem.W.clsIn; rw [hC] <;> rfl
  obtain ⟨t1, ho⟩ := exo_at I.hok e
  obtain ⟨hp, g, d, t, os⟩ := s
  refine PySem.W.set_plain I.kIn (ox := { cls := .ref C, dict := none, data := .fields #[.ref t1, .none, .none, .none, .bool false, .none] }) (od := none) ⟨ho, rfl, rfl, trivial⟩ T.sa ?_
  refine osa_g I.kIn ho hcl rfl B.ps B.ob rfl hno (fun h' tk' dx k dn dne hx hn => ?_)
  have nx : H dx = none := I.hok.fresh dn
  have n1 : ∀ {b : Addr} {o : Obj}, hp.get? b = some o → b ≠ dx := fun {b o} q => Nat.ne_of_lt (Nat.lt_of_lt_of_le (Heap.lt_size q) dn)
  have n2 : ∀ {b : Addr}, H b = none → b ≠ a := fun {b} n z => by rw [z, e] at n; cases n
  have U : Un X.fs [] H (upd (upd H dx (exd dx [(f, y)])) a (exo a C (some dx))) hp h' := {
    keep := fun b o q n _ _ => k b o (n2 n) q
    slot := fun b o q n _ _ => ⟨o.slots, k b o (n2 n) q⟩
    free := fun b o q n _ => by rw [upd_ne (n2 n), upd_ne (n1 q)]; exact n
    there := fun b o q _ => by
      by_cases hb : b = a
      · exact ⟨_, by rw [hb]; exact hx⟩
      · exact ⟨o, k b o hb q⟩
    tups := fun b xs q => by rw [upd_ne (at_ne e q exo_tup), upd_ne (ne_of_none q nx)]; exact q
    frzs := fun b o v q => by rw [upd_ne (at_ne e q exo_frz), upd_ne (ne_of_none q nx)]; exact q
    tbls := fun b ps q => ⟨#[], by rw [upd_ne (at_ne e q exo_tbl), upd_ne (ne_of_none q nx), q]; simp⟩ }
  refine h dx _ nx dne (I.un (t' := tk') U fun b o q => ?_)
  by_cases hb : b = a
  · subst hb
    rw [upd_same] at q
    cases q
    exact exo_ok hx
  · rw [upd_ne hb] at q
    by_cases hd : b = dx
    · subst hd
      rw [upd_same] at q
      cases q
      exact exd_ok hn (relO_put (fs := []) ry fun g => True.intro)
    · rw [upd_ne hd] at q
      exact (I.hok b o q).stay (fun c v hc z => k c v (by
          rcases hc with hc | hc
          · rw [hc]
            exact hb
          · exact at_ne e hc exo_own) z)
        (fun c hc => by rw [upd_ne (at_ne e hc exo_own), upd_ne (ne_of_none hc nx)]; exact hc) (fun c xs hc => by rw [upd_ne (at_ne e hc exo_tup), upd_ne (ne_of_none hc nx)]; exact hc)
end
end Rf
end
section
set_option Elab.async false
set_option linter.all false
set_option maxRecDepth 100000
set_option maxHeartbeats 4000000
/-! Rf, part Z1: C(e) for such a class. -/
namespace Rf
open PySem PySem.Spec PyProof.Rows L2
/-- self.f = e -/
def tPut (K : PySem.W.Frag) (newId : String) (tail : List Value) (f : Str) (to te : TE) : TS := fun D σ H => te σ H fun y H1 => to σ H1 fun x H2 => ∃ a C : Addr, x = .ref a ∧ ExO K C newId tail ∧ PySem.W.findIn K (.ref C) f = some none ∧ H2 a = some (exo a C none) ∧
  ∀ dx, H2 dx = none → dx ≠ a → D.nx σ (upd (upd H2 dx (exd dx [(f, y)])) a (exo a C (some dx)))
/-- what such an __init__ promises -/
def spInit (C : Addr) (f : Str) : Sp := fun vs H Q _ => ∃ (a : Addr) (y : V), vs = [.ref a, y] ∧ H a = some (exo a C none) ∧ ∀ dx, H dx = none → dx ≠ a → Q .non (upd (upd H dx (exd dx [(f, y)])) a (exo a C (some dx)))
section
variable {X : Cx} {o e : Expr} {es : List Expr} {to te : TE} {ta : TA} {f : Str} {p p' pos : Pos} {newId : String} {tail : List Value}
theorem ps_put (B : ExBase newId tail) (ho : PE X o to) (he : PE X e te) (hs : swapsWith e (some (.Attribute o f p')) pos.line X.env = pure false := by rfl) : PS X (.Assign [.Attribute o f p'] e pos) (tPut X.K newId tail f to te) := by
  refine ⟨fun pins s σ H D I h => ?_⟩
  refine plainObj_wpAny_Assign_Attribute (thn (he.run pins s σ H _ I h) fun v s1 ⟨y, H1, I1, r1, q1⟩ => thn (ho.run pins s1 σ H1 _ I1 q1) fun u s2 ⟨x, H2, I2, r2, a, C, ex, T, hno, ea, q⟩ => ?_) hs
  subst ex
  obtain rfl : u = Value.ref a := r2
  exact put_first T B I2 ea hno r1 fun dx s' n ne J => ⟨σ, _, J, q dx n ne⟩
/-- C(e, ..) -/
theorem mk_ex {CX : CXT} {Bn initId : String} {x : Str} {C fI : Addr} {k : Nat} {fd : FuncData} {ps : List Str} {sp : Sp} (F0 : ExcBaseFacts Bn newId initId tail) (T : ExO X.K C newId tail) (iC : PySem.W.findIn X.K (.ref C) "__init__" = some (some (.ref fI))) (tI : PySem.W.typeIn X.K (.ref fI) = some (.type "function"))
    (F1 : FnOk X.prog X.w X.K X.mg X.base CX k fI fd ps sp) (hr : Room (k + 1) X.A) (hb : Binds X.K fd ps []) (hx : Passes CX X (fun _ _ _ => False)) (hg : Gl X x) (hm : X.mg x = some (.ref C)) (ha : PA X (e :: es) ta) (hdb : (x == ("__debug__" : Str)) = false)
    (he : starEach (e :: es) X.env = (false, eval e X.env) :: starEach es X.env) (hpl : (backTo pos (starEach es X.env)).any (·.1) = false) : PMk X (.Call (.Name x p) (e :: es) [] pos) (tMkO C sp [] ta) := by
  intro pins s σ H Q I h
  obtain ⟨nm, q, N, bs, sn, sub, ab, col, dd, k0, k1, k2, k3, k5, hC⟩ := T.cls
  refine wpAny_Call_Name_kw (ld_glob I hg hm ?_ hdb)
  refine PySem.W.callWith_K (h₀ := X.base) I.ok.mod.kin T.kC (thn (ha.run pos pins s σ H _ I h) fun us s1 ⟨vs, H1, I1, r1, hz, q1⟩ => ⟨I1.kIn, ?_⟩) he hpl
  show wpAny _ _ (call (.ref C) us) _ _ _
  obtain ⟨hp, g, dr, tk, os⟩ := s1
  have up : hp.objs.size ≤ hp.objs.size + 1 := Nat.le_succ _
  have hq := q1 (hp.objs.size + 1) (I1.hok.fresh up)
  have kk : ∀ b o, hp.get? b = some o → ((hp.push (PySem.W.kdv_tup us)).push (PySem.HandSPX.excO C hp.objs.size)).get? b = some o := fun b o e => Heap.get?_push_of_some _ (Heap.get?_push_of_some _ e)
  have at1 : ((hp.push (PySem.W.kdv_tup us)).push (PySem.HandSPX.excO C hp.objs.size)).get? (hp.objs.size + 1) = some (PySem.HandSPX.excO C hp.objs.size) := by heap_get
  have I2 : Inv X pins σ (upd H1 (hp.objs.size + 1) (exo (hp.objs.size + 1) C none)) ⟨(hp.push (PySem.W.kdv_tup us)).push (PySem.HandSPX.excO C hp.objs.size), g, dr, tk, os⟩ :=
    I1.laid (t' := tk) (a := hp.objs.size + 1) (o := exo (hp.objs.size + 1) C none) (h' := (hp.push (PySem.W.kdv_tup us)).push (PySem.HandSPX.excO C hp.objs.size)) kk up (exo_ok at1)
  rw [List.append_nil] at hq
  have r2 : Vals (V.ref (hp.objs.size + 1) :: vs) (Value.ref (hp.objs.size + 1) :: us) := .cons rfl r1
  have hl : (Value.ref (hp.objs.size + 1) :: us ++ []).length = ps.length := by
    rw [List.append_nil, ← r2.length]
    exact F1.len _ _ _ _ hq
  have hus : us.length ≤ sizeLine := by
    rw [← Paired.length r1, sizeLine_eq]
    omega
  have hbd := hb ⟨(hp.push (PySem.W.kdv_tup us)).push (PySem.HandSPX.excO C hp.objs.size), g, dr, tk, os⟩ (Value.ref (hp.objs.size + 1) :: us) I2.kIn hl
  rw [List.append_nil] at hbd
  refine wpAny_call (PySem.HandSPX.call_own F0 (fun Y => rfl) (I1.kIn _ _ hC) (PySem.W.looks_findIn I1.kIn iC) (fun self => PySem.W.bind_fn I1.kIn self tI) hus
    (codeAny_mono (F1.run _ X.stack _ _ ⟨Value.ref (hp.objs.size + 1) :: us, []⟩ (Value.ref (hp.objs.size + 1) :: us) _ _ (fun _ _ _ => False) (hr.make C us []) (I2.env0.make C us []) hbd r2 hq) fun r s' hq' => ?_))
  cases r with
  | error er => exact hx pins σ _ _ er s' I2 hq'
  | ok fl =>
    cases fl with
    | ret u =>
      obtain ⟨v, H2, os2, bare2, un2, hok2, rv, ev, d, fs, ea, ed, hd1, q2⟩ := hq'
      subst ev
      obtain ⟨h2, g2, d2, t2, os'⟩ := s'
      exact ⟨rv, mk_end (raises_own T.exC T.tyC) I1 up kk un2 hok2 os2 bare2 ea ed hd1 q2⟩
    | next => exact False.elim hq'
    | brk => exact False.elim hq'
    | cont => exact False.elim hq'
end
end Rf
end
section
set_option Elab.async false
set_option linter.all false
set_option maxRecDepth 100000
set_option maxHeartbeats 2000000
/-! Rf, part Z2: raise C(int), by data. -/
namespace Rf
open PySem PySem.Spec L2
/-- the exception of class C, number n, lies with its one field f -/
def XrAt (XR : XRep) (C : Addr) (n : Nat) (f : Str) : Prop := ∀ (i : Int) (dx : Addr) (H : Hp) (fs : List (Str × V)), H dx = some (.xd fs) → fs.lookup f = some (.int i) → XR n [.int i] (.ref C) (some dx) H
def raiseM (n : Nat) (m : M D) : MS := M.bind m fun d => fun ρ => match d with
  | .int i => .ex n [.int i] ρ
  | _ => .bad
section
variable {X : Cx} {W : WX} {XR : XRep} {fr : Bool}
theorem s_raise {C : Addr} {n : Nat} {f : Str} {u t : Bool} {m : M D} (hx : XrAt XR C n f) : ∀ En σ H, TSr X W XR fr (raiseM n m) En σ H → (fun (_ : Ends) σ H => tMkO C (spInit C f) [] (tCons (TG X W XR u t m) tNil) σ H fun cls d H' => W cls d σ H') En σ H := fun En σ H ⟨F, ρ, R, z⟩ =>
  ⟨F, ρ, R, Out.sat_mono (sat2 z) (fun d ρ1 k v H1 R1 K1 D1 => by
    cases d with
    | int i =>
      have ev := int_of (D1.bd : Bd X.prog X.w X.K _ _ _ _)
      subst ev
      refine ⟨Nat.le_add_left 1 999, fun a ha => ⟨a, .int i, rfl, upd_same, fun dx hdx hne => ⟨rfl, dx, [(f, .int i)], upd_same, by rw [upd_ne hne, upd_same], ?_, ?_⟩⟩⟩
      · rw [upd_ne hne] at hdx
        exact hdx
      · rw [upd_ne hne] at hdx
        have g : ∀ b o, H1 b = some o → (upd (del (upd (upd (upd H1 a (exo a C none)) dx (exd dx [(f, V.int i)])) a (exo a C (some dx))) a) dx (HO.xd [(f, V.int i)])) b = some o := fun b o e => by
          have n1 : b ≠ a := fun z => by rw [z, ha] at e; cases e
          have n2 : b ≠ dx := fun z => by rw [z, hdx] at e; cases e
          rw [upd_ne n2, del_ne n1, upd_ne n1, upd_ne n2, upd_ne n1]
          exact e
        exact k σ (.ref C) (some dx) _ (R1.grow g) (hx i dx _ [(f, .int i)] upd_same (by simp [List.lookup]))
    | _ => exact k.elim) fun _ _ _ h => Xw_of h⟩
end
end Rf
namespace Rf
open PySem PySem.Spec L2
/-- an __init__ that keeps one value -/
theorem init_ok {P : Program} {w : World} {K : PySem.W.Frag} {mg : Str → Option Value} {base : Heap} {CX : CXT} {x q s p f : Str} {params : Arguments} {scope : Scope} {p1 p2 p3 pos : Pos} {fI C : Addr} {fd : FuncData} {newId : String} {tail : List Value}
    (F : FunD K x q params [.Assign [.Attribute (.Name s p1) f p2] (.Name p p3) pos] scope [] [] fI fd) (S : FnScope [s, p] [s, p] scope) (hs : scope.names.lookup s = some .local) (hp : scope.names.lookup p = some .local) (s1 : (s == ("__debug__" : Str)) = false) (s2 : (s == ("__classdict__" : Str)) = false)
    (q1 : (p == ("__debug__" : Str)) = false) (q2 : (p == ("__classdict__" : Str)) = false) (B : ExBase newId tail) (T : ExO K C newId tail) (hno : PySem.W.findIn K (.ref C) f = some none) : FnOk P w K mg base CX 1 fI fd [s, p] (spInit C f) := by
  refine F.ok S (fun vs H Q E ⟨a, y, e, _⟩ => by rw [e]; rfl) fun cdv A outer st H vs Q E hr ⟨a, y, e, ha, hq⟩ => ⟨tPut K newId tail f (tVar 0) (tVar 1), ?_, ?_⟩
  · exact pss_one (ps_put B (pe_var rfl (.inl hs) s1 s2) (pe_var rfl (.inl hp) q1 q2) rfl)
  · subst e
    exact ⟨y, rfl, .ref a, rfl, a, C, rfl, T, hno, ha, hq⟩
/-! ### the statement -/
/-- class x, number n: its instances keep one whole number, f -/
structure ClsF (X : Cx) (XR : XRep) (x : Str) (n : Nat) : Prop where
  ex : ∃ (f : Str) (C fI : Addr) (Bn newId initId : String) (tail : List Value) (k : Nat) (fd : FuncData) (ps : List Str), X.mg x = some (.ref C) ∧ ExcBaseFacts Bn newId initId tail ∧ ExO X.K C newId tail ∧ PySem.W.findIn X.K (.ref C) "__init__" = some (some (.ref fI)) ∧
    PySem.W.typeIn X.K (.ref fI) = some (.type "function") ∧ FnOk X.prog X.w X.K X.mg X.base (L2.CX X.prog X.w) k fI fd ps (spInit C f) ∧ Room (k + 1) X.A ∧ Binds X.K fd ps [] ∧ XrAt XR C n f
theorem p_raise {X : Cx} {W : WX} {XR : XRep} {fr : Bool} {x : Str} {n : Nat} {p pos rpos : Pos} {e : Expr} {u t : Bool} {m : M D} (hc : X.calm = true) (tk : Takes X W) (c : ClsF X XR x n) (hg : Gl X x) (hd : (x == ("__debug__" : Str)) = false) (he : PE X e (TG X W XR u t m))
    (hs : starEach [e] X.env = (false, eval e X.env) :: starEach [] X.env) : PS X (.Raise (some (.Call (.Name x p) [e] [] pos)) none rpos) (TSr X W XR fr (raiseM n m)) := by
  obtain ⟨f, C, fI, Bn, newId, initId, tail, k, fd, ps, h1, h2, h3, h4, h5, h6, h7, h8, h9⟩ := c.ex
  exact PSi (ps_raise hc tk (mk_ex h2 h3 h4 h5 h6 h7 h8 (passes_call tk fun _ _ _ _ z => z.elim) hg h1 (pa_cons he pa_nil hs) hd hs rfl)) fun En σ H hl z => s_raise h9 En σ H z
end Rf
end
section
set_option Elab.async false
set_option linter.all false
set_option maxRecDepth 100000
set_option maxHeartbeats 4000000
/-! Rf, part Z3: isinstance of a caught exception that has a dict. -/
namespace Rf
open PySem PySem.Spec PySem.Calls PyProof.Rows PySem.W L2
section
variable {prog : Program} {w : World} {A : Around} {E : Value → Shared → Prop} {s : Shared} {K : Frag} {x D : Addr} {ox : Obj} {od : Option Obj}
theorem found_cls {C : Addr} {name : Str} {a g : Value} (hc : (clsIn K C).isSome = true) (ha : findIn K (.ref C) name = some (some a)) (hg : specialIn K a "__get__" = some (some g)) (ht : takesIn K a = some true) : findObj K C od name = some (.bind g a) := by
  obtain ⟨cd, hc⟩ := Option.isSome_iff_exists.mp hc
  unfold findObj
  rw [hc, Option.bind_some, ha, Option.bind_some]
  simp [hg, ht]
theorem cls_of_exc {Q : Option Value → Shared → Prop} (T : ExcC K D) (X : K.In s.heap) (I : InstAt s.heap x ox D od) (h : Q (some (.ref D)) { s with toks := s.toks + 1 }) : wpAny (model prog w) A (getAttr? (.ref x) "__class__") Q E s := by
  have hf : findObj K D od "__class__" = some (.bind (.builtin "getset_descriptor.__get__") (.builtin "object.__class__")) := found_cls (by obtain ⟨cd, hc, _⟩ := any_some T.hd; rw [hc]; rfl) T.ha T.hn T.ht
  obtain ⟨hp, g, d, t, os⟩ := s
  have L0 := I.type (M := model prog w)
  have L1 := looks_findIn (M := model prog w) X T.hg
  have L2 := looks_findIn (M := model prog w) X T.hk
  have L3 := looks_find (M := model prog w) X I hf
  have sub : Looks (model prog w) hp (isInstance (.ref x) (.type "BaseException")) true := L0.andThen (looks_subIn X T.hs)
  have z0 : (false && onTheHeap (Value.builtin "BaseException.__getattribute__")) = false := rfl
  have z1 : (onTheHeap (Value.ref D) && Value.builtin "BaseException.__getattribute__" == Value.builtin "object.__getattribute__") = false := by
    rw [show (Value.builtin "BaseException.__getattribute__" == Value.builtin "object.__getattribute__") = false by decide +kernel]
    rfl
  unfold getAttr? getAttrBy? getAttrBy
  refine wpAny_bind (wpAny_mkText (wpAny_bind (wpAny_attempt (wpAny_holding (wpAny_bind (L0.at (wpAny_bind (L1.at ?_))))))))
  show wpAny _ _ (if (onTheHeap (Value.ref D) && Value.builtin "BaseException.__getattribute__" == Value.builtin "object.__getattribute__") = true then _ else _) _ _ _
  rw [z1, if_neg Bool.false_ne_true]
  unfold getAttrByItsOwn hookBefore
  refine wpAny_bind ?_
  rw [if_pos (show onTheHeap (Value.ref D) = true from rfl)]
  refine L2.at (wpAny_bind (wpAny_attempt (wpAny_holding ?_)))
  unfold callGetattribute
  rw [z0, if_neg Bool.false_ne_true]
  unfold boundAndCalled
  rw [PySem.F.excAttr_ValueError.ga.bind (.ref x)]
  refine wpAny_bind (wpAny_pure ?_)
  show wpAny _ _ (call (.builtin "BaseException.__getattribute__") [.ref x, .str "__class__" t]) _ _ _
  refine wpAny_call (codeAny_call_builtin PySem.F.excAttr_ValueError.ga.plain PySem.F.entry_bexc_ga ?_)
  refine @check_slot (model prog w) _ _ ⟨hp, g, d, t + 1, os⟩ "BaseException.__getattribute__" "BaseException" "__getattribute__" (.ref x) [.str "__class__" t] [] _ (by decide +kernel) (by decide +kernel) sub (PySem.F.args_bexc_ga (.ref x) (.str "__class__" t)) ?_
  unfold Builtin.«object.__getattribute__»
  refine wpAny_bind (wpAny_of_eq (a := ((Value.ref x : Value), [Value.str "__class__" t])) (by first | rfl | (simp only [slotArgs]; rfl)) ?_)
  refine wpAny_bind (wpAny_pure (wpAny_bind (L0.at (wpAny_bind (L3.at ?_)))))
  show wpAny _ _ (holding [Value.builtin "object.__class__"] (call (.builtin "getset_descriptor.__get__") [.builtin "object.__class__", .ref x, .ref D]) >>= ret) _ _ _
  refine wpAny_bind (wpAny_holding (wpAny_call (class_get (s := ⟨hp, g, d, t + 1, os⟩) (ox := ox) (od := od) X I T.hm ?_)))
  refine wpAny_pure ?_
  show wpAny _ _ (handedOut (.ref D)) _ _ _
  rw [handedOut_of (v := .ref D) rfl]
  first
    | exact wpAny_pure (wpAny_pure h)
    | exact wpAny_pure h
    | exact wpAny_pure (wpAny_bind (wpAny_pure (wpAny_pure h)))
theorem kitx_of (T : ExcC K D) : KitX K (.ref x) (.ref D) (fun h => InstAt h x ox D od) where
  ty := fun _ _ _ I => I.type
  it := fun _ _ X _ => by
    obtain ⟨cdD, hcD, _⟩ := any_some T.hd
    unfold clsIn at hcD
    split at hcD
    · rename_i c' d' cd' sl' ho
      intro A' Q' E' s' k q
      unfold isType loadHead
      exact wpAny_bind (wpAny_loadPart (k _ _ (X _ _ ho)) (wpAny_pure q))
    · cases hcD
  ne := (handS_kitx_exc (x := x) (ox := ox) T.hg T.hk T.hs T.hd T.ha T.hn T.ht T.hm).ne
  ca := fun X I k => cls_of_exc T X I k
end
/-- isinstance(e, c), e the exception that the suite holds, with a dict at dd -/
theorem call_isD {X : Cx} {a D dd : Addr} {oe : Obj} {pn : List (Addr × Obj)} (C : ExcC X.K D) (hz : Zc (.ref D) (some dd) oe) (hf : ∃ vs, oe.data = .fields vs) : CallR (X.suite a ((a, oe) :: pn)) (.builtin "isinstance") (fun xs H Q => (∃ fs, H dd = some (.xd fs)) ∧ rIsE X.K D a xs H Q) := by
  intro pins s σ H xs us Q I r ⟨⟨fs, hd⟩, c, cv, b, e0, hcv, e, q⟩
  subst e0
  cases r with
  | cons rx rr =>
    cases rr with
    | cons rt rr =>
      cases rr
      cases rx
      have ec := hcv _ rt
      subst ec
      obtain ⟨hget, _⟩ := I.pin (a, oe) (List.mem_append.mpr (.inl List.mem_cons_self))
      obtain ⟨vs, hv⟩ := hf
      have hx : ObjOk X.prog X.w H s.heap dd (.xd fs) := I.hok dd _ hd
      obtain ⟨mA, hns, hr⟩ := hx
      obtain ⟨od, ho, hl⟩ := lookIn_ns hns
      have J : PySem.W.InstAt s.heap a oe D (some od) := ⟨hget, hz.1, by unfold PySem.W.notCls; rw [hv] <;> rfl, by rw [hz.2]; exact ho⟩
      exact PySem.W.kia_one (kitx_of C) I.kIn J e (fun z => nomatch z) fun tk => ⟨.bl b, H, I.kept (t' := tk) fun _ _ z => z, rfl, q⟩
end Rf
end
section
set_option Elab.async false
set_option linter.all false
set_option maxRecDepth 100000
set_option maxHeartbeats 2000000
/-! Rf, part Z4: the suite of an except clause: return [text, e.f, isinstance(e, base)]. -/
namespace Rf
open PySem PySem.Spec L2
/-- what the class must say for the clause -/
structure CatF (K : PySem.W.Frag) (C : Addr) (f : Str) (base : String) : Prop where
  is_ : ExcC K C
  xf : XfC K C
  no : PySem.W.findIn K (.ref C) f = some none
  me : PySem.W.exmOne K (.ref C) (.ref C) = some true
  kb : PySem.W.kitOne K (.ref C) (.type base) = some true
def rIsF (K : PySem.W.Frag) (C a : Addr) (cls : Value) (d : Option Addr) : List V → Hp → VK → Prop := fun xs H Q => cls = .ref C ∧ ∃ dd, d = some dd ∧ (∃ fs, H dd = some (.xd fs)) ∧ rIsE K C a xs H Q
theorem call_isF {X : Cx} {a C : Addr} {oe : Obj} {cls : Value} {d : Option Addr} {pn : List (Addr × Obj)} (T : ExcC X.K C) (hz : Zc cls d oe) (hf : ∃ vs, oe.data = .fields vs) : CallR (X.suite a ((a, oe) :: pn)) (.builtin "isinstance") (rIsF X.K C a cls d) := by
  intro pins s σ H xs us Q I r ⟨e1, dd, e2, q⟩
  subst e1 e2
  exact call_isD T hz hf pins s σ H xs us Q I r q
theorem suite_of {X : Cx} {C : Addr} {f n nm b : Str} {base : String} {i j : Nat} {p1 p2 p3 p4 p5 p6 p7 p8 p9 : Pos} (T : CatF X.K C f base) (hi : X.N[i]? = some n) (hv : X.env.scope.names.lookup n = some .local) (n1 : (n == ("__debug__" : Str)) = false) (n2 : (n == ("__classdict__" : Str)) = false)
    (b1 : Bn X "isinstance" (.builtin "isinstance")) (b2 : Bn X b (.type base)) : ∃ ts : Addr → Value → Option Addr → TS,
    (∀ (a : Addr) (oe : Obj) (cls : Value) (d : Option Addr) (pn : List (Addr × Obj)), Zc cls d oe → (∃ vs, oe.data = .fields vs) → PSs (X.suite a ((a, oe) :: pn)) [.Return (some (.List [.Constant (.str nm) j p1, .Attribute (.Name n p2) f p3, .Call (.Name "isinstance" p4) [.Name n p5, .Name b p6] [] p7] p8)) p9] (ts a cls d)) ∧
    ∀ (a dd : Addr) (fs : List (Str × V)) (v : V) (D : Ends) (σ : Sg) (H : Hp), σ[i]? = some (some (.ref a)) → H dd = some (.xd fs) → fs.lookup f = some v → (∀ p, H p = none → D.rt (.ref p) (upd H p (.lst [.str nm, v, .bl true]))) → ts a (.ref C) (some dd) D σ H := by
  refine ⟨fun a cls d => tRet (tLst (tCons (fun σ H Q => Q (.str nm) H) (tCons (tXf a cls d C f (tVar i)) (tCons (tCB (rIsF X.K C a cls d) (tCons (tVar i) (tCons (fun σ H Q => Q (.ty base) H) tNil))) tNil)))), fun a oe cls d pn hz hf => ?_, fun a dd fs v D σ H hs hd hl q => ?_⟩
  · have pv : ∀ p, PE (X.suite a ((a, oe) :: pn)) (.Name n p) (tVar i) := fun p => pe_var hi (.inl hv) n1 n2
    have c1 : PE (X.suite a ((a, oe) :: pn)) (.Call (.Name "isinstance" p4) [.Name n p5, .Name b p6] [] p7) (tCB (rIsF X.K C a cls d) (tCons (tVar i) (tCons (fun σ H Q => Q (.ty base) H) tNil))) :=
      pe_callB (call_isF T.is_ hz hf) b1.gl b1.mg b1.bt (pa_cons (pv p5) (pa_cons (pe_bltn b2.gl b2.mg b2.bt (v := .ty base) rfl b2.nn b2.nd) pa_nil rfl) rfl) b1.nn b1.nd rfl rfl
    exact pss_one (ps_ret (pe_lst (pa_cons pe_str (pa_cons (pe_xf T.xf T.no hz hf (pv p2)) (pa_cons c1 pa_nil rfl) rfl) rfl)))
  · exact ⟨.ref a, hs, rfl, rfl, dd, fs, v, rfl, hd, hl, .ref a, hs, rfl, dd, rfl, ⟨fs, hd⟩, .ty base, .type base, true, rfl, fun u r => r, T.kb, by show 3 ≤ sizeLine; decide, fun p hp => q p hp⟩
end Rf
end
section
set_option Elab.async false
set_option linter.all false
set_option maxRecDepth 100000
set_option maxHeartbeats 2000000
/-! Rf, part Z5: try: .. except C as n: return [text, n.f, isinstance(n, base)], by data. -/
namespace Rf
open PySem PySem.Spec L2
def tryM (n : Nat) (nm : Str) (b : MS) : MS := fun ρ => match b ρ with
  | .ex c es ρ' => match es with
    | [.int k] => if c = n then .ok (.rt (.list [.str nm, .int k, .bool true])) ρ' else .bad
    | _ => .bad
  | .ok f ρ' => .ok f ρ'
  | .bad => .bad
/-- what an exception of number n is -/
def XrOf (XR : XRep) (C : Addr) (n : Nat) (f : Str) : Prop := ∀ es cls d H, XR n es cls d H → cls = .ref C ∧ ∃ (i : Int) (dx : Addr) (fs : List (Str × V)), es = [.int i] ∧ d = some dx ∧ H dx = some (.xd fs) ∧ fs.lookup f = some (.int i)
section
variable {X : Cx} {W : WX} {XR : XRep}
theorem takes_len (h : Takes X W) : Takes X (fun cls d σ H => σ.length = X.N.length → W cls d σ H) := fun u s' ⟨a, B, sI, pins, σ, H, cls, d, e, I, nb, up, sky, na, os, ag, w⟩ => h u s' ⟨a, B, sI, pins, σ, H, cls, d, e, I, nb, up, sky, na, os, ag, w I.len⟩
theorem s_try {C : Addr} {f nm : Str} {n i : Nat} {b : MS} {ts : Addr → Value → Option Addr → TS} (hx : XrOf XR C n f) (me : PySem.W.exmOne X.K (.ref C) (.ref C) = some true) (hi : i < X.N.length)
    (hts : ∀ (a dd : Addr) (fs : List (Str × V)) (v : V) (D : Ends) (σ : Sg) (H : Hp), σ[i]? = some (some (.ref a)) → H dd = some (.xd fs) → fs.lookup f = some v → (∀ p, H p = none → D.rt (.ref p) (upd H p (.lst [.str nm, v, .bl true]))) → ts a (.ref C) (some dd) D σ H) :
    ∀ En σ H, TSr X W XR false (tryM n nm b) En σ H → TSr X (fun cls d σ H => σ.length = X.N.length → wAs X.K (.ref C) i ts W En cls d σ H) XR false b En σ H := fun En σ H ⟨F, ρ, R, z⟩ => by
  refine ⟨F, ρ, R, ?_⟩
  unfold tryM at z
  cases e : b ρ with
  | bad => rw [e] at z; exact z.elim
  | ok g ρ' => rw [e] at z; exact z
  | ex c es ρ' =>
    rw [e] at z
    dsimp only at z
    intro σ' cls d H' R' x len
    split at z
    · rename_i k
      split at z
      · rename_i hc
        subst hc
        obtain ⟨rfl, i', dx, fs, e2, rfl, h1, h2⟩ := hx _ _ _ _ x
        cases e2
        refine ⟨true, me, fun _ a ha => hts a dx fs _ _ _ H' (by rw [List.getElem?_set_self (by rw [len]; exact hi)]) h1 h2 fun p hp => ?_, fun z => by cases z⟩
        exact new_lst (ds := [.str nm, .int k, .bool true]) R' hp (.cons (.str nm) (.cons (.int k) (.cons (.bl true) .nil))) fun a' H2 R2 g n2 ob => z σ' (.ref a') H2 ⟨R2.but fun _ => R'.fresh a' n2, ob.dn (S := Al (F.but a') ρ' σ') (R'.newAl (Kp.grow (t := false) g) n2) Fr.but_le⟩
      · exact z.elim
    · exact z.elim
end
end Rf
end
section
set_option Elab.async false
set_option linter.all false
set_option maxRecDepth 100000
set_option maxHeartbeats 2000000
/-! Rf, part Z6: the try statement. -/
namespace Rf
open PySem PySem.Spec L2
/-- class x, number n, field f, its built-in base -/
structure ClsG (X : Cx) (XR : XRep) (x : Str) (n : Nat) (f : Str) (base : String) : Prop where
  mk_ : ClsF X XR x n
  ct : ∃ C : Addr, X.mg x = some (.ref C) ∧ XrOf XR C n f ∧ CatF X.K C f base
theorem p_try {X : Cx} {W : WX} {XR : XRep} {m : MS} {x n f nm b : Str} {base : String} {k i j : Nat} {np p1 p2 p3 p4 p5 p6 p7 p8 p9 pos pos' : Pos} {body : List Stmt} (hs : X.stack = X.env :: X.outer) (hf : X.env.frame = some X.env.locals) (hN : X.N.Nodup) (hi : X.N[i]? = some n) (hi2 : i < X.N.length)
    (hv : X.env.scope.names.lookup n = some .local) (n1 : (n == ("__debug__" : Str)) = false) (n2 : (n == ("__classdict__" : Str)) = false) (g : ClsG X XR x k f base) (hg : Gl X x) (hd : (x == ("__debug__" : Str)) = false) (tk : Takes X W) (b1 : Bn X "isinstance" (.builtin "isinstance")) (b2 : Bn X b (.type base))
    (hb : ∀ (W : WX) (pn : List (Addr × Obj)) (xe : Value → Shared → Prop), Takes (X.tr pn xe) W → PassesOwn (model X.prog X.w) X.A X.env xe → PSs (X.tr pn xe) body (TSr X W XR false m)) :
    PS X (.Try body [.ExceptHandler (some (.Name x np)) (some n) [.Return (some (.List [.Constant (.str nm) j p1, .Attribute (.Name n p2) f p3, .Call (.Name "isinstance" p4) [.Name n p5, .Name b p6] [] p7] p8)) p9] pos'] [] [] pos) (TSr X W XR false (tryM k nm m)) := by
  obtain ⟨C, h1, h2, h3⟩ := g.ct
  obtain ⟨ts, t1, t2⟩ := suite_of (nm := nm) (j := j) (p1 := p1) (p2 := p2) (p3 := p3) (p4 := p4) (p5 := p5) (p6 := p6) (p7 := p7) (p8 := p8) (p9 := p9) h3 hi hv n1 n2 b1 b2
  exact PSi (ps_try_as hs hf hN hi hv ⟨hg, hd, .inl h1⟩ tk (tb := fun W => TSr X (fun cls d σ H => σ.length = X.N.length → W cls d σ H) XR false m) (fun W pn xe tk pw => hb _ pn xe (takes_len (X := X.tr pn xe) tk) pw) t1) fun En σ H hl z => s_try h2 h3.me hi2 t2 En σ H z
end Rf
end
section
set_option Elab.async false
set_option linter.all false
set_option maxRecDepth 100000
set_option maxHeartbeats 2000000
/-! Rf, part K: functions. -/
namespace Rf
open PySem PySem.Spec L2
/-- how a parameter is handed in: as data; to be changed; to be read -/
inductive Md where
  | dt | io | bo
inductive FOut where
  | ok (d : D) (os : List D)
  | ex (c : Nat) (es : List D) (os : List D)
  | bad
abbrev Fn := List D → FOut
def FOut.sat (o : FOut) (k : D → List D → Prop) (e : Nat → List D → List D → Prop) : Prop := match o with
  | .ok d os => k d os
  | .ex c es os => e c es os
  | .bad => False
section
variable (P : Program) (w : World) (K : PySem.W.Frag)
/-- the arguments at a call: IO: the objects that are changed -/
inductive ArgsAt (S : Addr → Prop) (H : Hp) (IO : List Addr) : List Md → List V → List D → List Addr → Prop
  | nil : ArgsAt S H IO [] [] [] []
  | dt {v : V} {d : D} {ms : List Md} {vs : List V} {ds : List D} {as : List Addr} : Dn P w K S H v d → ArgsAt S H IO ms vs ds as → ArgsAt S H IO (.dt :: ms) (v :: vs) (d :: ds) as
  | io {a : Addr} {d : D} {ms : List Md} {vs : List V} {ds : List D} {as : List Addr} : Ob P w K S H a d → ¬ S a → a ∉ as → ArgsAt S H IO ms vs ds as → ArgsAt S H IO (.io :: ms) (.ref a :: vs) (d :: ds) (a :: as)
  | bo {v : V} {d : D} {ms : List Md} {vs : List V} {ds : List D} {as : List Addr} : (Dn P w K S H v d ∨ ∃ a, v = .ref a ∧ Rb P w K S H a d ∧ a ∉ IO ∧ ∃ o, H a = some o) → ArgsAt S H IO ms vs ds as → ArgsAt S H IO (.bo :: ms) (v :: vs) (d :: ds) as
/-- the objects that were to be changed, behind -/
inductive Obs (S : Addr → Prop) (H : Hp) : List Addr → List D → Prop
  | nil : Obs S H [] []
  | cons {a : Addr} {d : D} {as : List Addr} {ds : List D} : Ob P w K S H a d → Obs S H as ds → Obs S H (a :: as) (d :: ds)
/-- how the heap is left by a call -/
structure Left (H H' : Hp) (as : List Addr) : Prop where
  kp : ∀ b o, H b = some o → b ∉ as → H' b = some o
  th : ∀ b o, H b = some o → ∃ o', H' b = some o'
/-- what comes back -/
def Back (fr : Bool) (S : Addr → Prop) (H H' : Hp) (as : List Addr) (os : List D) (v : V) (d : D) : Prop :=
  if fr = true then ∃ a, v = .ref a ∧ H a = none ∧ Obs P w K (fun b => S b ∧ b ≠ a) H' as os ∧ Ob P w K (fun b => S b ∧ b ≠ a) H' a d else Obs P w K S H' as os ∧ Dn P w K S H' v d
/-- THE PROMISE of a def that computes f -/
def spF (XR : XRep) (ms : List Md) (fr : Bool) (f : Fn) : Sp := fun vs H Q E => ∃ S as ds, (∀ a, H a = none → S a) ∧ ArgsAt P w K S H as ms vs ds as ∧
  (f ds).sat (fun d os => ∀ v H', Left H H' as → Back P w K fr S H H' as os v d → Q v H') (fun c es os => ∀ cls dd H', Left H H' as → Obs P w K S H' as os → XR c es cls dd H' → E cls dd H')
end
section
variable {P : Program} {w : World} {K : PySem.W.Frag} {S : Addr → Prop} {H : Hp}
theorem ArgsAt.len {IO : List Addr} {ms : List Md} {vs : List V} {ds : List D} {as : List Addr} (h : ArgsAt P w K S H IO ms vs ds as) : vs.length = ms.length := by
  induction h <;> simp_all
theorem spF_len {XR : XRep} {ms : List Md} {fr : Bool} {f : Fn} (vs : List V) (H : Hp) (Q : VK) (E : XK) (h : spF P w K XR ms fr f vs H Q E) : vs.length = ms.length := let ⟨_, _, _, _, h, _⟩ := h; h.len
theorem spF_imp {XR : XRep} {ms : List Md} {fr : Bool} {f g : Fn} (hfg : ∀ ds, f ds = g ds ∨ f ds = .bad) (vs : List V) (H : Hp) (Q : VK) (E : XK) (h : spF P w K XR ms fr f vs H Q E) : spF P w K XR ms fr g vs H Q E := by
  obtain ⟨S, as, ds, h1, h2, h3⟩ := h
  refine ⟨S, as, ds, h1, h2, ?_⟩
  rcases hfg ds with e | e
  · rw [← e]; exact h3
  · rw [e] at h3; exact h3.elim
end

/-! ### a def's body -/
/-- the slots at the entry -/
def entE (ms : List Md) (ds : List D) : Env := fun i => match ms[i]?, ds[i]? with
  | some .dt, some d => .im d
  | some .io, some d => .io d
  | some .bo, some d => .bo d
  | _, _ => .un
/-- what the objects that were handed in to be changed hold now -/
def outs : List Md → Nat → Env → List D
  | [], _, _ => []
  | .io :: ms, i, ρ => ((ρ i).val.getD .none) :: outs ms (i + 1) ρ
  | _ :: ms, i, ρ => outs ms (i + 1) ρ
def fnOf (ms : List Md) (fr : Bool) (m : MS) : Fn := fun ds => match m (entE ms ds) with
  | .ok .nx ρ => if fr = true then .bad else .ok .none (outs ms 0 ρ)
  | .ok (.rt d) ρ => .ok d (outs ms 0 ρ)
  | .ex c es ρ => .ex c es (outs ms 0 ρ)
  | _ => .bad
/-- the slots that are changed, with their addresses -/
def ioL : List Md → List V → Nat → List (Nat × Addr)
  | .io :: ms, .ref a :: vs, i => (i, a) :: ioL ms vs (i + 1)
  | _ :: ms, _ :: vs, i => ioL ms vs (i + 1)
  | _, _, _ => []
section
variable {P : Program} {w : World} {K : PySem.W.Frag} {S : Addr → Prop} {H : Hp} {IO : List Addr}
theorem ioL_as {ms : List Md} {vs : List V} {ds : List D} {as : List Addr} (h : ArgsAt P w K S H IO ms vs ds as) : ∀ i, (ioL ms vs i).map (·.2) = as := by
  induction h with
  | nil => intro i; rfl
  | dt _ _ ih => intro i; unfold ioL; exact ih _
  | io _ _ _ _ ih => intro i; unfold ioL; rw [List.map_cons, ih]
  | bo _ _ ih => intro i; unfold ioL; exact ih _
theorem ArgsAt.at {ms : List Md} {vs : List V} {ds : List D} {as : List Addr} (h : ArgsAt P w K S H IO ms vs ds as) : ∀ (j k : Nat),
    (ms[j]? = none ∧ vs[j]? = none ∧ ds[j]? = none) ∨ (∃ v d, ms[j]? = some .dt ∧ vs[j]? = some v ∧ ds[j]? = some d ∧ Dn P w K S H v d) ∨ (∃ a d, ms[j]? = some .io ∧ vs[j]? = some (.ref a) ∧ ds[j]? = some d ∧ Ob P w K S H a d ∧ ¬ S a ∧ a ∈ as ∧ (k + j, a) ∈ ioL ms vs k) ∨
    ∃ v d, ms[j]? = some .bo ∧ vs[j]? = some v ∧ ds[j]? = some d ∧ (Dn P w K S H v d ∨ ∃ a, v = .ref a ∧ Rb P w K S H a d ∧ a ∉ IO ∧ ∃ o, H a = some o) := by
  induction h with
  | nil => intro j k; exact .inl ⟨by simp, by simp, by simp⟩
  | dt q _ ih =>
    intro j k
    cases j with
    | zero => exact .inr (.inl ⟨_, _, rfl, rfl, rfl, q⟩)
    | succ j =>
      have z := ih j (k + 1)
      simp only [List.getElem?_cons_succ, ioL]
      rw [show k + (j + 1) = k + 1 + j by omega]
      exact z
  | io q1 q2 q3 _ ih =>
    intro j k
    cases j with
    | zero => exact .inr (.inr (.inl ⟨_, _, rfl, rfl, rfl, q1, q2, List.mem_cons_self, by simp [ioL]⟩))
    | succ j =>
      simp only [List.getElem?_cons_succ, ioL]
      rw [show k + (j + 1) = k + 1 + j by omega]
      rcases ih j (k + 1) with z | z | ⟨a, d, z1, z2, z3, z4, z5, z6, z7⟩ | z
      · exact .inl z
      · exact .inr (.inl z)
      · exact .inr (.inr (.inl ⟨a, d, z1, z2, z3, z4, z5, List.mem_cons_of_mem _ z6, List.mem_cons_of_mem _ z7⟩))
      · exact .inr (.inr (.inr z))
  | bo q _ ih =>
    intro j k
    cases j with
    | zero => exact .inr (.inr (.inr ⟨_, _, rfl, rfl, rfl, q⟩))
    | succ j =>
      have z := ih j (k + 1)
      simp only [List.getElem?_cons_succ, ioL]
      rw [show k + (j + 1) = k + 1 + j by omega]
      exact z
theorem ioL_at {ms : List Md} {vs : List V} {ds : List D} {as : List Addr} (h : ArgsAt P w K S H IO ms vs ds as) : ∀ k, ∀ p ∈ ioL ms vs k, ∃ j, p.1 = k + j ∧ ms[j]? = some .io ∧ vs[j]? = some (.ref p.2) ∧ ∃ d, ds[j]? = some d := by
  induction h with
  | nil => intro k p hp; cases hp
  | dt _ _ ih =>
    intro k p hp
    unfold ioL at hp
    obtain ⟨j, h1, h2, h3, h4⟩ := ih _ p hp
    exact ⟨j + 1, by omega, by simpa using h2, by simpa using h3, by simpa using h4⟩
  | io _ _ _ _ ih =>
    intro k p hp
    unfold ioL at hp
    rcases List.mem_cons.mp hp with rfl | hp
    · exact ⟨0, rfl, rfl, rfl, _, rfl⟩
    · obtain ⟨j, h1, h2, h3, h4⟩ := ih _ p hp
      exact ⟨j + 1, by omega, by simpa using h2, by simpa using h3, by simpa using h4⟩
  | bo _ _ ih =>
    intro k p hp
    unfold ioL at hp
    obtain ⟨j, h1, h2, h3, h4⟩ := ih _ p hp
    exact ⟨j + 1, by omega, by simpa using h2, by simpa using h3, by simpa using h4⟩
/-- two places of one object are one place -/
theorem io_inj {ms : List Md} {vs : List V} {ds : List D} {as : List Addr} (h : ArgsAt P w K S H IO ms vs ds as) : ∀ (i j : Nat) (a : Addr), ms[i]? = some .io → ms[j]? = some .io → vs[i]? = some (.ref a) → vs[j]? = some (.ref a) → i = j := by
  have mem : ∀ {ms : List Md} {vs : List V} {ds : List D} {as : List Addr}, ArgsAt P w K S H IO ms vs ds as → ∀ (i : Nat) (a : Addr), ms[i]? = some .io → vs[i]? = some (.ref a) → a ∈ as := fun h i a h1 h2 => by
    rcases h.at i 0 with ⟨z, _⟩ | ⟨v, d, z, _⟩ | ⟨b, d, z1, z2, _, _, _, z3, _⟩ | ⟨v, d, z, _⟩
    · rw [z] at h1; cases h1
    · rw [z] at h1; cases h1
    · rw [z2] at h2; cases h2; exact z3
    · rw [z] at h1; cases h1
  induction h with
  | nil => intro i j a h1; simp at h1
  | dt _ _ ih =>
    intro i j a h1 h2 h3 h4
    cases i with
    | zero => cases h1
    | succ i => cases j with
      | zero => cases h2
      | succ j => rw [ih i j a h1 h2 h3 h4]
  | io _ _ q r ih =>
    intro i j a h1 h2 h3 h4
    cases i with
    | zero =>
      cases j with
      | zero => rfl
      | succ j =>
        cases h3
        exact absurd (mem r j _ h2 h4) q
    | succ i => cases j with
      | zero =>
        cases h4
        exact absurd (mem r i _ h1 h3) q
      | succ j => rw [ih i j a h1 h2 h3 h4]
  | bo _ _ ih =>
    intro i j a h1 h2 h3 h4
    cases i with
    | zero => cases h1
    | succ i => cases j with
      | zero => cases h2
      | succ j => rw [ih i j a h1 h2 h3 h4]
theorem start_get {N : List Str} {vs : List V} {j : Nat} {v : V} (h : vs[j]? = some v) : (L2.start N vs)[j]? = some (some v) := by
  unfold L2.start
  have hj := (List.getElem?_eq_some_iff.mp h).1
  rw [List.getElem?_append_left (by rw [List.length_map]; exact hj), List.getElem?_map, h]
  rfl
def entF (S : Addr → Prop) (H : Hp) (ms : List Md) (vs : List V) : Fr := { N := S, H0 := H, io := ioL ms vs 0 }
/-- at the entry -/
theorem Rel.entry {ms : List Md} {vs : List V} {ds : List D} {as : List Addr} {N : List Str} (hS : ∀ a, H a = none → S a) (h : ArgsAt P w K S H as ms vs ds as) : Rel P w K (entF S H ms vs) (entE ms ds) (L2.start N vs) H := by
  have look : ∀ i s, entE ms ds i = s → s ≠ .un → (∃ v d, s = .im d ∧ vs[i]? = some v ∧ Dn P w K S H v d) ∨ (∃ a d, s = .io d ∧ ms[i]? = some .io ∧ vs[i]? = some (.ref a) ∧ Ob P w K S H a d ∧ ¬ S a ∧ a ∈ as ∧ (i, a) ∈ ioL ms vs 0) ∨
      ∃ v d, s = .bo d ∧ vs[i]? = some v ∧ (Dn P w K S H v d ∨ ∃ a, v = .ref a ∧ Rb P w K S H a d ∧ a ∉ as ∧ ∃ o, H a = some o) := fun i s e hs => by
    unfold entE at e
    rcases h.at i 0 with ⟨z, _, _⟩ | ⟨v, d, z1, z2, z3, z4⟩ | ⟨a, d, z1, z2, z3, z4, z5, z6, z7⟩ | ⟨v, d, z1, z2, z3, z4⟩
    · rw [z] at e; exact absurd e.symm hs
    · rw [z1, z3] at e; exact .inl ⟨v, d, e.symm, z2, z4⟩
    · rw [z1, z3] at e; exact .inr (.inl ⟨a, d, e.symm, z1, z2, z4, z5, z6, by simpa using z7⟩)
    · rw [z1, z3] at e; exact .inr (.inr ⟨v, d, e.symm, z2, z4⟩)
  have mm : ∀ i, (entE ms ds i).isM = true → ∃ a, ms[i]? = some .io ∧ vs[i]? = some (.ref a) ∧ ¬ S a ∧ a ∈ as := fun i hi => by
    rcases look i _ rfl (fun z => by rw [z] at hi; cases hi) with ⟨v, d, z, _⟩ | ⟨a, d, z, z1, z2, z3, z4, z5, z6⟩ | ⟨v, d, z, _⟩
    · rw [z] at hi; cases hi
    · exact ⟨a, z1, z2, z4, z5⟩
    · rw [z] at hi; cases hi
  have ma : ∀ a, MutA (entE ms ds) (L2.start N vs) a → ¬ S a ∧ a ∈ as := fun a ⟨i, h1, h2⟩ => by
    obtain ⟨b, _, q2, q3, q4⟩ := mm i h1
    rw [start_get q2] at h2
    cases h2
    exact ⟨q3, q4⟩
  have al : ∀ b o, S b → H b = some o → Al (entF S H ms vs) (entE ms ds) (L2.start N vs) b ∧ H b = some o := fun b o s e => ⟨⟨s, fun z => (ma b z).1 s⟩, e⟩
  refine ⟨fun i d e => ?_, fun i d e => ?_, fun i d e => ?_, fun i d e => ?_, fun i j a hij p1 p2 q1 q2 => ?_, fun p hp => ?_, hS, fun b o e _ => e⟩
  · rcases look i _ e (fun z => nomatch z) with ⟨v, c, z, z1, z2⟩ | ⟨a, c, z, _⟩ | ⟨v, c, z, _⟩
    · cases z; exact ⟨v, start_get z1, Dn.mono al z2⟩
    · cases z
    · cases z
  · rcases look i _ e (fun z => nomatch z) with ⟨v, c, z, _⟩ | ⟨a, c, z, _⟩ | ⟨v, c, z, _⟩ <;> cases z
  · rcases look i _ e (fun z => nomatch z) with ⟨v, c, z, _⟩ | ⟨a, c, z, z1, z2, z3, z4, z5, z6⟩ | ⟨v, c, z, _⟩
    · cases z
    · cases z; exact ⟨a, start_get z2, z3.mono al fun _ z => z, z6⟩
    · cases z
  · rcases look i _ e (fun z => nomatch z) with ⟨v, c, z, _⟩ | ⟨a, c, z, _⟩ | ⟨v, c, z, z1, z2⟩
    · cases z
    · cases z
    · cases z
      refine ⟨v, start_get z1, ?_⟩
      rcases z2 with z2 | ⟨a, y1, y2, y3, o, y4⟩
      · exact .inl (Dn.mono al z2)
      · exact .inr ⟨a, y1, y2.mono al fun _ z => z, fun z => y3 (ma a z).2, .inr (fun z => by rw [show (entF S H ms vs).H0 a = H a from rfl, y4] at z; cases z), o, y4⟩
  · obtain ⟨b, y1, y2, _, _⟩ := mm i p1
    obtain ⟨c, x1, x2, _, _⟩ := mm j p2
    rw [start_get y2] at q1
    rw [start_get x2] at q2
    cases q1
    cases q2
    exact hij (io_inj h i j a y1 x1 y2 x2)
  · obtain ⟨j, h1, h2, h3, d, h4⟩ := ioL_at h 0 p hp
    have e : p.1 = j := by omega
    rw [e]
    exact ⟨⟨d, by unfold entE; rw [h2, h4]⟩, start_get h3⟩
/-- the objects that were to be changed, at the end -/
theorem outs_ok {F : Fr} {ρ : Env} {σ : Sg} {H' : Hp} {S' : Addr → Prop} (R : Rel P w K F ρ σ H') (hS : ∀ b o, Al F ρ σ b → H' b = some o → S' b ∧ H' b = some o) {ms : List Md} {vs : List V} {ds : List D} {as : List Addr} (h : ArgsAt P w K S H IO ms vs ds as) :
    ∀ k, (∀ p ∈ ioL ms vs k, p ∈ F.io) → Obs P w K S' H' as (outs ms k ρ) := by
  induction h with
  | nil => intro k _; exact .nil
  | dt _ _ ih => intro k hk; unfold outs; exact ih _ fun p hp => hk p (by unfold ioL; exact hp)
  | io _ _ _ _ ih =>
    intro k hk
    unfold outs
    refine .cons ?_ (ih _ fun p hp => hk p (by unfold ioL; exact List.mem_cons_of_mem _ hp))
    obtain ⟨⟨d, hd⟩, hs⟩ := R.ioin _ (hk (k, _) (by unfold ioL; exact List.mem_cons_self))
    obtain ⟨a, h1, h2, _⟩ := R.io _ _ hd
    have hs' : σ[k]? = some (some (.ref _)) := hs
    rw [h1] at hs'
    cases hs'
    have hd' : ρ k = .io d := hd
    rw [hd']
    exact h2.mono hS fun _ z => z
  | bo _ _ ih => intro k hk; unfold outs; exact ih _ fun p hp => hk p (by unfold ioL; exact hp)
theorem left_of {F : Fr} {ρ : Env} {σ : Sg} {H' : Hp} (R : Rel P w K F ρ σ H') (h0 : F.H0 = H) {as : List Addr} (hio : F.io.map (·.2) = as) : Left H H' as := by
  have kp : ∀ b o, H b = some o → b ∉ as → H' b = some o := fun b o e hb => R.ent b o (by rw [h0]; exact e) fun p hp z => hb (by rw [← hio, ← z]; exact List.mem_map_of_mem hp)
  refine ⟨kp, fun b o e => ?_⟩
  by_cases hb : b ∈ as
  · rw [← hio] at hb
    obtain ⟨p, hp, rfl⟩ := List.mem_map.mp hb
    obtain ⟨⟨d, hd⟩, hs⟩ := R.ioin p hp
    obtain ⟨a, h1, h2, _⟩ := R.io _ _ hd
    rw [hs] at h1
    cases h1
    exact h2.there
  · exact ⟨o, kp b o e hb⟩
end
/-- a def's body computes what the def promises -/
theorem body_ok {X : Cx} {XR : XRep} {fr : Bool} {ms : List Md} {m : MS} {vs : List V} {H : Hp} {Q : VK} {E : XK} {N : List Str} (h : spF X.prog X.w X.K XR ms fr (fnOf ms fr m) vs H Q E) :
    TSr X (fun cls d _ H' => E cls d H') XR fr m { nx := fun _ H' => Q .non H', rt := Q } (L2.start N vs) H := by
  obtain ⟨S, as, ds, hS, ha, z⟩ := h
  have hio : (entF S H ms vs).io.map (·.2) = as := ioL_as ha 0
  refine ⟨entF S H ms vs, entE ms ds, Rel.entry hS ha, ?_⟩
  have out : ∀ {ρ σ H'} {S' : Addr → Prop}, Rel X.prog X.w X.K (entF S H ms vs) ρ σ H' → (∀ b o, Al (entF S H ms vs) ρ σ b → H' b = some o → S' b ∧ H' b = some o) → Obs X.prog X.w X.K S' H' as (outs ms 0 ρ) := fun R h => outs_ok R h ha 0 fun p hp => hp
  unfold fnOf at z
  cases e : m (entE ms ds) with
  | bad => rw [e] at z; exact z.elim
  | ex c es ρ =>
    rw [e] at z
    exact fun σ' cls d H' R x => z cls d H' (left_of R rfl hio) (out R fun b o s q => ⟨s.1, q⟩) x
  | ok f ρ =>
    rw [e] at z
    cases f with
    | nx =>
      intro σ' H' R _
      cases fr with
      | true => exact z.elim
      | false => exact z .non H' (left_of R rfl hio) ⟨out R fun b o s q => ⟨s.1, q⟩, .non⟩
    | bk => exact z.elim
    | ct => exact z.elim
    | rt d =>
      intro σ' v H' r
      cases fr with
      | true =>
        obtain ⟨a, rfl, O⟩ := r
        have R' := O.rel.but fun _ => O.n
        have al : ∀ b o, Al ((entF S H ms vs).but a) ρ σ' b → H' b = some o → (S b ∧ b ≠ a) ∧ H' b = some o := fun b o s q => ⟨s.1, q⟩
        exact z _ H' (left_of R' rfl hio) ⟨a, rfl, O.h0, outs_ok O.rel al ha 0 fun p hp => hp, O.ob.mono al fun _ z => z⟩
      | false =>
        obtain ⟨R, dn⟩ := r
        exact z v H' (left_of R rfl hio) ⟨out R fun b o s q => ⟨s.1, q⟩, Dn.mono (fun b o s q => ⟨s.1, q⟩) dn⟩

/-! ### a call -/
/-- an argument: data; or the name of a list or dict that is changed or read -/
inductive Ar where
  | dt (m : M D) | nm (i : Nat)
def sees (ρ : Env) (i : Nat) : Bool := match ρ i with
  | .un => false
  | _ => true
def arM : List Ar → M (List (Option D))
  | [] => M.pure []
  | .dt m :: r => M.bind m fun d => M.bind (arM r) fun ds => M.pure (some d :: ds)
  | .nm i :: r => fun ρ => if sees ρ i = true then (arM r ρ).bind fun ds ρ' => .ok (none :: ds) ρ' else .bad
inductive ArV (X : Cx) (S : Addr → Prop) (σ : Sg) (H : Hp) : List Ar → List (Option D) → List V → Prop
  | nil : ArV X S σ H [] [] []
  | dt {m : M D} {v : V} {d : D} {l : List Ar} {ds : List (Option D)} {vs : List V} : Dn X.prog X.w X.K S H v d → ArV X S σ H l ds vs → ArV X S σ H (.dt m :: l) (some d :: ds) (v :: vs)
  | nm {i : Nat} {v : V} {l : List Ar} {ds : List (Option D)} {vs : List V} : σ[i]? = some (some v) → ArV X S σ H l ds vs → ArV X S σ H (.nm i :: l) (none :: ds) (v :: vs)
theorem ArV.mono {X : Cx} {S S' : Addr → Prop} {σ : Sg} {H H' : Hp} (h : ∀ a o, S a → H a = some o → S' a ∧ H' a = some o) {l : List Ar} {ds : List (Option D)} {vs : List V} (x : ArV X S σ H l ds vs) : ArV X S' σ H' l ds vs := by
  induction x with
  | nil => exact .nil
  | dt q _ ih => exact .dt (Dn.mono h q) ih
  | nm q _ ih => exact .nm q ih
def taR (X : Cx) (W : WX) (XR : XRep) (t : Bool) (l : List Ar) : TA := fun σ H Q => ∃ F ρ, Rel X.prog X.w X.K F ρ σ H ∧
  (arM l ρ).sat (fun ds ρ' => ∀ vs H', Rel X.prog X.w X.K F ρ' σ H' → Kp t ρ ρ' σ H H' → ArV X (Al F ρ' σ) σ H' l ds vs → Q vs H') (Xw X.prog X.w X.K W XR F σ)
section
variable {X : Cx} {W : WX} {XR : XRep}
theorem ar_nil : PA X [] (taR X W XR false []) := PAi pa_nil fun σ H Q ⟨F, ρ, R, z⟩ => z [] H R .refl .nil
theorem ar_dt {e : Expr} {es : List Expr} {t u : Bool} {m : M D} {l : List Ar} (he : PE X e (TG X W XR false t m)) (hr : PA X es (taR X W XR u l)) (hs : starEach (e :: es) X.env = (false, eval e X.env) :: starEach es X.env) :
    PA X (e :: es) (taR X W XR (t || u) (.dt m :: l)) := PAi (pa_cons he hr hs) fun σ H Q ⟨F, ρ, R, z⟩ =>
  ⟨F, ρ, R, Out.sat_mono (sat2 z) (fun d ρ1 k v H1 R1 K1 D1 => ⟨F, ρ1, R1, Out.sat_mono (sat2 k) (fun ds ρ2 k2 vs H2 R2 K2 D2 => k2 _ H2 R2 (K1.trans K2) (.dt (Dn.kp K2 D1) D2)) fun _ _ _ h => h⟩) fun _ _ _ h => h⟩
theorem Rel.sees {F : Fr} {ρ : Env} {σ : Sg} {H : Hp} {i : Nat} (R : Rel X.prog X.w X.K F ρ σ H) (h : sees ρ i = true) : ∃ v, σ[i]? = some (some v) := by
  unfold Rf.sees at h
  cases e : ρ i with
  | un => rw [e] at h; cases h
  | im d => obtain ⟨v, q, _⟩ := R.im i d e; exact ⟨v, q⟩
  | mu d => obtain ⟨v, q, _⟩ := R.mu i d e; exact ⟨_, q⟩
  | io d => obtain ⟨v, q, _⟩ := R.io i d e; exact ⟨_, q⟩
  | bo d => obtain ⟨v, q, _⟩ := R.bo i d e; exact ⟨v, q⟩
theorem ar_nm {e : Expr} {es : List Expr} {u : Bool} {i : Nat} {l : List Ar} (he : PE X e (tVar i)) (hr : PA X es (taR X W XR u l)) (hs : starEach (e :: es) X.env = (false, eval e X.env) :: starEach es X.env) :
    PA X (e :: es) (taR X W XR u (.nm i :: l)) := PAi (pa_cons he hr hs) fun σ H Q ⟨F, ρ, R, z⟩ => by
  unfold arM at z
  split at z
  · rename_i hz
    obtain ⟨v, hv⟩ := R.sees hz
    exact ⟨v, hv, F, ρ, R, Out.sat_mono (Out.sat_bind.mp z) (fun ds ρ2 k2 vs H2 R2 K2 D2 => k2 _ H2 R2 K2 (.nm hv D2)) fun _ _ _ h => h⟩
  · exact z.elim
def rdSl : Sl → Option D
  | .im d | .mu d | .io d | .bo d => some d
  | .un => none
def consO (d : Option D) (r : Option (List D)) : Option (List D) := match d, r with
  | some d, some r => some (d :: r)
  | _, _ => none
def callV (ρ : Env) : List Md → List Ar → List (Option D) → Option (List D)
  | [], [], [] => some []
  | .dt :: ms, .dt _ :: l, d :: ds => consO d (callV ρ ms l ds)
  | .bo :: ms, .dt _ :: l, d :: ds => consO d (callV ρ ms l ds)
  | .bo :: ms, .nm i :: l, _ :: ds => consO (rdSl (ρ i)) (callV ρ ms l ds)
  | .io :: ms, .nm i :: l, _ :: ds => consO (ρ i).val (callV ρ ms l ds)
  | _, _, _ => none
theorem consO_of {d : Option D} {r : Option (List D)} {z : List D} (h : consO d r = some z) : ∃ x xs, d = some x ∧ r = some xs ∧ z = x :: xs := by
  unfold consO at h
  split at h
  · cases h; exact ⟨_, _, rfl, rfl, rfl⟩
  · cases h
/-- the slots of what is changed; of what is read -/
def ioS : List Md → List Ar → List Nat
  | .io :: ms, .nm i :: l => i :: ioS ms l
  | _ :: ms, _ :: l => ioS ms l
  | _, _ => []
def boS : List Md → List Ar → List Nat
  | .bo :: ms, .nm i :: l => i :: boS ms l
  | _ :: ms, _ :: l => boS ms l
  | _, _ => []
def callOk (ms : List Md) (l : List Ar) : Bool := match ioS ms l with
  | [] => true
  | [i] => (boS ms l).all fun j => !(j == i)
  | _ => false
def putO : List Nat → List D → Env → Env
  | i :: r, d :: ds, ρ => putO r ds (upM ρ i d)
  | _, _, ρ => ρ
def callM (f : Fn) (ms : List Md) (l : List Ar) : M D := fun ρ => (arM l ρ).bind fun ds ρ1 => match callV ρ1 ms l ds with
  | none => .bad
  | some vals => match f vals with
    | .ok d os => .ok d (putO (ioS ms l) os ρ1)
    | .ex c es os => .ex c es (putO (ioS ms l) os ρ1)
    | .bad => .bad
/-- from the caller's slots to the arguments -/
theorem args_of {F : Fr} {ρ : Env} {σ : Sg} {H : Hp} (R : Rel X.prog X.w X.K F ρ σ H) (IO : List Addr) (hIO : ∀ a ∈ IO, ∃ i, (ρ i).isM = true ∧ σ[i]? = some (some (.ref a))) : ∀ {l : List Ar} {ds : List (Option D)} {vs : List V}, ArV X (Al F ρ σ) σ H l ds vs → ∀ {ms : List Md} {vals : List D},
    callV ρ ms l ds = some vals → (ioS ms l).length ≤ 1 → (∀ j ∈ boS ms l, ∀ a ∈ IO, ∀ i, (ρ i).isM = true → σ[i]? = some (some (.ref a)) → i ≠ j) →
    ∃ as, ArgsAt X.prog X.w X.K (Al F ρ σ) H IO ms vs vals as ∧ (ioS ms l = [] → as = []) ∧ ∀ i, ioS ms l = [i] → ∃ a d, as = [a] ∧ (ρ i).val = some d ∧ (ρ i).isM = true ∧ σ[i]? = some (some (.ref a)) := by
  intro l ds vs h
  induction h with
  | nil =>
    intro ms vals e _ _
    cases ms with
    | nil => cases e; exact ⟨[], .nil, fun _ => rfl, fun i hi => nomatch hi⟩
    | cons m ms => cases m <;> cases e
  | dt q r ih =>
    intro ms vals e h1 h2
    cases ms with
    | nil => cases e
    | cons md ms =>
      cases md with
      | dt =>
        obtain ⟨x, xs, e1, e2, rfl⟩ := consO_of e
        cases e1
        obtain ⟨as, A, B, C⟩ := ih e2 h1 h2
        exact ⟨as, .dt q A, B, C⟩
      | io => cases e
      | bo =>
        obtain ⟨x, xs, e1, e2, rfl⟩ := consO_of e
        cases e1
        obtain ⟨as, A, B, C⟩ := ih e2 h1 h2
        exact ⟨as, .bo (.inl q) A, B, C⟩
  | nm q r ih =>
    rename_i i v l ds vs
    intro ms vals e h1 h2
    cases ms with
    | nil => cases e
    | cons md ms =>
      cases md with
      | dt => cases e
      | io =>
        obtain ⟨x, xs, e1, e2, rfl⟩ := consO_of e
        have h1' : ioS ms l = [] := by
          have : (i :: ioS ms l).length ≤ 1 := h1
          exact List.eq_nil_of_length_eq_zero (by simpa using this)
        obtain ⟨as, A, B, C⟩ := ih e2 (by rw [h1']; exact Nat.zero_le _) h2
        obtain rfl := B h1'
        obtain ⟨a, y1, y2, y3⟩ := R.there e1
        rw [q] at y1
        cases y1
        refine ⟨[a], .io y2 (fun z => z.2 ⟨i, y3, q⟩) (by simp) A, (fun z => nomatch z), fun j hj => ?_⟩
        have hj' : i :: ioS ms l = [j] := hj
        rw [h1'] at hj'
        cases hj'
        exact ⟨a, x, rfl, e1, y3, q⟩
      | bo =>
        obtain ⟨x, xs, e1, e2, rfl⟩ := consO_of e
        obtain ⟨as, A, B, C⟩ := ih e2 h1 fun j hj => h2 j (List.mem_cons_of_mem _ hj)
        refine ⟨as, .bo ?_ A, B, C⟩
        have own : ∀ {a : Addr}, (ρ i).isM = true → v = .ref a → a ∉ IO := fun {a} hm hv ha => by
          obtain ⟨j, w1, w2⟩ := hIO a ha
          have ne := h2 i List.mem_cons_self a ha j w1 w2
          exact R.sep j i a ne w1 hm w2 (by rw [q, hv])
        cases es : ρ i with
        | un => rw [es] at e1; cases e1
        | im d =>
          rw [es] at e1
          cases e1
          obtain ⟨u, y1, y2⟩ := R.im i x es
          rw [q] at y1
          cases y1
          exact .inl y2
        | mu d =>
          rw [es] at e1
          cases e1
          obtain ⟨a, y1, y2, _⟩ := R.mu i x es
          rw [q] at y1
          cases y1
          exact .inr ⟨a, rfl, y2.rb, own (by rw [es]; rfl) rfl, y2.there⟩
        | io d =>
          rw [es] at e1
          cases e1
          obtain ⟨a, y1, y2, _⟩ := R.io i x es
          rw [q] at y1
          cases y1
          exact .inr ⟨a, rfl, y2.rb, own (by rw [es]; rfl) rfl, y2.there⟩
        | bo d =>
          rw [es] at e1
          cases e1
          obtain ⟨u, y1, y2⟩ := R.bo i x es
          rw [q] at y1
          cases y1
          rcases y2 with y2 | ⟨a, y2, y3, y4, y5, y6⟩
          · exact .inl y2
          · exact .inr ⟨a, y2, y3, fun ha => by obtain ⟨j, w1, w2⟩ := hIO a ha; exact y4 ⟨j, w1, w2⟩, y6⟩
/-- the caller's slots behind the call -/
theorem after_call {F : Fr} {ρ : Env} {σ : Sg} {H H' : Hp} (R : Rel X.prog X.w X.K F ρ σ H) {is : List Nat} {as : List Addr} {os : List D} (L : Left H H' as) (h0 : is = [] → as = []) (h1 : ∀ i, is = [i] → ∃ a, as = [a] ∧ (ρ i).isM = true ∧ σ[i]? = some (some (.ref a))) (hl : is.length ≤ 1)
    (ob : Obs X.prog X.w X.K (Al F ρ σ) H' as os) : Rel X.prog X.w X.K F (putO is os ρ) σ H' ∧ Kp (!is.isEmpty) ρ (putO is os ρ) σ H H' ∧ Al F (putO is os ρ) σ = Al F ρ σ := by
  cases is with
  | nil =>
    obtain rfl := h0 rfl
    cases ob
    have g : ∀ b o, H b = some o → H' b = some o := fun b o e => L.kp b o e (by simp)
    exact ⟨R.grow g, Kp.grow g, rfl⟩
  | cons i r =>
    cases r with
    | nil =>
      obtain ⟨a, rfl, hm, hs⟩ := h1 i rfl
      cases ob with
      | cons q r =>
        cases r
        obtain ⟨R', K'⟩ := R.writeG hm hs (fun b o hb e => L.kp b o e (by simpa using hb)) q
        exact ⟨R', K', al_upM⟩
    | cons j r => simp at hl
theorem callOk_of {ms : List Md} {l : List Ar} (h : callOk ms l = true) : (ioS ms l).length ≤ 1 ∧ ∀ i, ioS ms l = [i] → i ∉ boS ms l := by
  unfold callOk at h
  split at h
  · rename_i e; rw [e]; exact ⟨Nat.zero_le _, fun i hi => nomatch hi⟩
  · rename_i i e
    rw [e]
    refine ⟨Nat.le_refl _, fun j hj hm => ?_⟩
    cases hj
    have := List.all_eq_true.mp h _ hm
    simp at this
  · cases h
/-- the arguments' side of a call -/
theorem call_core {f : Fn} {ms : List Md} {l : List Ar} {fr : Bool} {F : Fr} {ρ : Env} {σ : Sg} {H : Hp} {ds : List (Option D)} {vs : List V} {Q : VK} {E : XK} (hok : callOk ms l = true) (R : Rel X.prog X.w X.K F ρ σ H) (A : ArV X (Al F ρ σ) σ H l ds vs)
    (z : ∃ vals, callV ρ ms l ds = some vals ∧ (f vals).sat (fun d os => ∀ v H' as, Left H H' as → Back X.prog X.w X.K fr (Al F ρ σ) H H' as os v d → (ioS ms l = [] → as = []) → (∀ i, ioS ms l = [i] → ∃ a, as = [a] ∧ (ρ i).isM = true ∧ σ[i]? = some (some (.ref a))) → Q v H')
      (fun c es os => ∀ cls dd H' as, Left H H' as → Obs X.prog X.w X.K (Al F ρ σ) H' as os → (ioS ms l = [] → as = []) → (∀ i, ioS ms l = [i] → ∃ a, as = [a] ∧ (ρ i).isM = true ∧ σ[i]? = some (some (.ref a))) → XR c es cls dd H' → E cls dd H')) :
    spF X.prog X.w X.K XR ms fr f vs H Q E := by
  obtain ⟨vals, e, z⟩ := z
  obtain ⟨hl, hb⟩ := callOk_of hok
  -- the object that is changed
  have IOx : ∃ IO : List Addr, (∀ a ∈ IO, ∃ i, (ρ i).isM = true ∧ σ[i]? = some (some (.ref a))) ∧ (∀ j ∈ boS ms l, ∀ a ∈ IO, ∀ i, (ρ i).isM = true → σ[i]? = some (some (.ref a)) → i ≠ j) ∧ ∀ as, (ioS ms l = [] → as = []) → (∀ i, ioS ms l = [i] → ∃ a d, as = [a] ∧ (ρ i).val = some d ∧ (ρ i).isM = true ∧ σ[i]? = some (some (.ref a))) → as = IO := by
    cases hi : ioS ms l with
    | nil => exact ⟨[], by simp, by simp, fun as h _ => h rfl⟩
    | cons i r =>
      have hr : r = [] := by
        rw [hi] at hl
        exact List.eq_nil_of_length_eq_zero (by simpa using hl)
      subst hr
      by_cases hv : ∃ a, (ρ i).isM = true ∧ σ[i]? = some (some (.ref a))
      · obtain ⟨a, h1, h2⟩ := hv
        refine ⟨[a], fun b hm => ?_, fun j hj b hm k w1 w2 q => ?_, fun as _ h => ?_⟩
        · rw [List.mem_singleton.mp hm]; exact ⟨i, h1, h2⟩
        · rw [List.mem_singleton.mp hm] at w2
          have ki : k = i := Classical.byContradiction fun y => R.sep k i a y w1 h1 w2 h2
          rw [← q, ki] at hj
          exact hb i hi hj
        · obtain ⟨b, d, e1, _, _, e2⟩ := h i rfl
          rw [h2] at e2
          cases e2
          exact e1
      · refine ⟨[], by simp, by simp, fun as _ h => ?_⟩
        obtain ⟨a, d, _, _, h1, h2⟩ := h i rfl
        exact absurd ⟨a, h1, h2⟩ hv
  obtain ⟨IO, i1, i2, i3⟩ := IOx
  obtain ⟨as, A1, A2, A3⟩ := args_of R IO i1 A e hl i2
  obtain rfl := i3 as A2 A3
  have A3' : ∀ i, ioS ms l = [i] → ∃ a, as = [a] ∧ (ρ i).isM = true ∧ σ[i]? = some (some (.ref a)) := fun i hi => let ⟨a, d, q1, _, q2, q3⟩ := A3 i hi; ⟨a, q1, q2, q3⟩
  refine ⟨Al F ρ σ, as, vals, fun a h => R.new h, A1, ?_⟩
  cases ef : f vals with
  | ok d os => rw [ef] at z; exact fun v H' L B => z v H' as L B A2 A3'
  | ex c es os => rw [ef] at z; exact fun cls dd H' L B x => z cls dd H' as L B A2 A3' x
  | bad => rw [ef] at z; exact z.elim
theorem callM_sat {f : Fn} {ms : List Md} {l : List Ar} {ρ : Env} {k : D → Env → Prop} {e : WF} (h : (callM f ms l ρ).sat k e) :
    (arM l ρ).sat (fun ds ρ1 => ∃ vals, callV ρ1 ms l ds = some vals ∧ (f vals).sat (fun d os => k d (putO (ioS ms l) os ρ1)) fun c es os => e c es (putO (ioS ms l) os ρ1)) e := by
  refine Out.sat_mono (Out.sat_bind.mp h) (fun ds ρ1 k => ?_) fun _ _ _ h => h
  cases e1 : callV ρ1 ms l ds with
  | none => rw [e1] at k; exact k.elim
  | some vals =>
    rw [e1] at k
    refine ⟨vals, rfl, ?_⟩
    cases e2 : f vals with
    | ok d os => simp only [e2] at k; exact k
    | ex c es os => simp only [e2] at k; exact k
    | bad => simp only [e2] at k; exact k.elim
/-- f(..), data coming back -/
theorem t_call {f : Fn} {ms : List Md} {l : List Ar} {t : Bool} {ta : TA} (hok : callOk ms l = true) (ha : ∀ σ H Q, taR X W XR t l σ H Q → ta σ H Q) :
    ∀ σ H Q, TG X W XR false (t || !(ioS ms l).isEmpty) (callM f ms l) σ H Q → tCallSD (spF X.prog X.w X.K XR ms false f) [] (WE W) ta σ H Q := fun σ H Q ⟨F, ρ, R, z⟩ =>
  ha _ _ _ ⟨F, ρ, R, Out.sat_mono (callM_sat z) (fun ds ρ1 k vs H1 R1 K1 A1 => by
    show spF _ _ _ XR ms _ f (vs ++ []) H1 Q (WE W σ)
    rw [List.append_nil]
    refine call_core hok R1 A1 ?_
    obtain ⟨vals, e1, k⟩ := k
    refine ⟨vals, e1, ?_⟩
    obtain ⟨hl, _⟩ := callOk_of hok
    cases ef : f vals with
    | ok d os =>
      rw [ef] at k
      intro v H' as L B h0 h1
      obtain ⟨b1, b2⟩ := B
      obtain ⟨R', K', ea⟩ := after_call R1 L h0 h1 hl b1
      exact k v H' R' (K1.trans K') (Dn.mono (fun b o s e => ⟨by rw [ea]; exact s, e⟩) b2)
    | ex c es os =>
      rw [ef] at k
      intro cls dd H' as L b1 h0 h1 x
      obtain ⟨R', K', ea⟩ := after_call R1 L h0 h1 hl b1
      exact k cls dd H' R' x
    | bad => rw [ef] at k; exact k.elim) fun _ _ _ h => h⟩
/-- .. a list or dict coming back -/
theorem f_call {f : Fn} {ms : List Md} {l : List Ar} {t : Bool} {ta : TA} (hok : callOk ms l = true) (ha : ∀ σ H Q, taR X W XR t l σ H Q → ta σ H Q) :
    ∀ σ H Q, TF X W XR (t || !(ioS ms l).isEmpty) (callM f ms l) σ H Q → tCallSD (spF X.prog X.w X.K XR ms true f) [] (WE W) ta σ H Q := fun σ H Q ⟨F, ρ, R, z⟩ =>
  ha _ _ _ ⟨F, ρ, R, Out.sat_mono (callM_sat z) (fun ds ρ1 k vs H1 R1 K1 A1 => by
    show spF _ _ _ XR ms _ f (vs ++ []) H1 Q (WE W σ)
    rw [List.append_nil]
    refine call_core hok R1 A1 ?_
    obtain ⟨vals, e1, k⟩ := k
    refine ⟨vals, e1, ?_⟩
    obtain ⟨hl, _⟩ := callOk_of hok
    cases ef : f vals with
    | ok d os =>
      rw [ef] at k
      intro v H' as L B h0 h1
      obtain ⟨a, rfl, n, b1, b2⟩ := B
      obtain ⟨oa, hoa⟩ := b2.there
      -- first the new object, then what was changed
      have R2 := R1.alloc (H' := upd H1 a oa) n (g_upd n) (by rw [upd_same]; exact fun y => nomatch y)
      have ne : ∀ i, ioS ms l = [i] → ∀ c, as = [c] → c ≠ a := fun i hi c hc => by
        obtain ⟨c', q1, q2, q3⟩ := h1 i hi
        rw [hc] at q1
        cases q1
        obtain ⟨o, q4⟩ := R1.mutThere ⟨i, q2, q3⟩
        exact ne_of_none q4 n
      have L2 : Left (upd H1 a oa) H' as := ⟨fun b o e hb => by
          by_cases q : b = a
          · subst q; rw [upd_same] at e; cases e; exact hoa
          · rw [upd_ne q] at e; exact L.kp b o e hb, fun b o e => by
          by_cases q : b = a
          · subst q; exact ⟨oa, hoa⟩
          · rw [upd_ne q] at e; exact L.th b o e⟩
      have al : ∀ b o, (Al F ρ1 σ b ∧ b ≠ a) → H' b = some o → Al (F.but a) ρ1 σ b ∧ H' b = some o := fun b o s e => ⟨⟨⟨s.1.1, s.2⟩, s.1.2⟩, e⟩
      have b1' : Obs X.prog X.w X.K (Al (F.but a) ρ1 σ) H' as os := by
        clear h0 h1 ne L L2 k ef
        induction b1 with
        | nil => exact .nil
        | cons q _ ih => exact .cons (q.mono al fun _ z => z) ih
      obtain ⟨R', K', ea⟩ := after_call R2 L2 h0 h1 hl b1'
      refine k a H' R' (K1.trans ⟨K'.le, fun b o e hm => K'.kp b o (g_upd n b o e) hm, fun b o e => K'.th b o (g_upd n b o e)⟩) (K1.none n) (b2.mono (fun b o s e => ⟨by rw [ea]; exact (al b o s e).1, e⟩) fun _ z => z)
    | ex c es os =>
      rw [ef] at k
      intro cls dd H' as L b1 h0 h1 x
      obtain ⟨R', K', ea⟩ := after_call R1 L h0 h1 hl b1
      exact k cls dd H' R' x
    | bad => rw [ef] at k; exact k.elim) fun _ _ _ h => h⟩
end
end Rf
end
section
set_option Elab.async false
set_option linter.all false
set_option maxRecDepth 100000
set_option maxHeartbeats 2000000
/-! Rf, part L: dicts whose keys are tuples. -/
namespace Rf
open PySem PySem.Spec L2

/-! ### keys -/
/-- v is the key k, whatever heap bears H -/
def KeyAt (X : Cx) (H : Hp) (v : V) (k : NestedKey) : Prop := ∀ (pins : List (Addr × Obj)) (σ : Sg) (s : Shared) (u : Value), Inv X pins σ H s → RelV v u → NestedIs s.heap k u
def KeysAt (X : Cx) (H : Hp) (vs : List V) (ks : List NestedKey) : Prop := ∀ (pins : List (Addr × Obj)) (σ : Sg) (s : Shared) (us : List Value), Inv X pins σ H s → Vals vs us → NestedAll s.heap ks us
section
variable {X : Cx} {S : Addr → Prop} {H : Hp}
mutual
theorem keyAt_of : ∀ {v : V} {d : D} {k : NestedKey}, Dn X.prog X.w X.K S H v d → keyOf d = some k → KeyAt X H v k
  | _, _, _, .non, e => fun pins σ s u I r => by cases e; cases r; exact .none
  | _, _, _, .bl b, e => by cases e
  | _, _, _, .int i, e => fun pins σ s u I r => by cases e; obtain ⟨t, rfl⟩ := r; exact .int i t
  | _, _, _, .str x, e => fun pins σ s u I r => by cases e; obtain ⟨t, rfl⟩ := r; exact .text x t
  | _, _, _, .lst _ _, e => by cases e
  | _, _, _, .dic _ _ _ _ _ _, e => by cases e
  | _, _, _, .tup t q, e => fun pins σ s u I r => by
    unfold keyOf at e
    obtain ⟨ks, e1, rfl⟩ := Option.map_eq_some_iff.mp e
    cases r
    obtain ⟨its, rv, ⟨o, ho, hc, n, hd⟩, _⟩ := I.tuple t.sq
    exact .tup ho hc hd (by simpa using keysAt_of q e1 pins σ s its I rv)
theorem keysAt_of : ∀ {vs : List V} {ds : List D} {ks : List NestedKey}, DnAll X.prog X.w X.K S H vs ds → keysOf ds = some ks → KeysAt X H vs ks
  | _, _, _, .nil, e => fun pins σ s us I r => by
    unfold keysOf at e
    cases e
    cases r
    exact .nil
  | _, _, _, .cons q t, e => fun pins σ s us I r => by
    unfold keysOf at e
    split at e
    · rename_i k ks e1 e2
      cases e
      cases r with
      | cons r1 r2 => exact .cons (keyAt_of q e1 pins σ s _ I r1) (keysAt_of t e2 pins σ s _ I r2)
    · cases e
end
/-- a dict stands at a -/
structure DcAt (X : Cx) (H : Hp) (a : Addr) (o : Obj) (xs : List (NestedKey × Addr × Value)) : Prop where
  e : H a = some (dictO X.prog X.w a o xs)
  sy : (a == sysModules) = false
  ln : xs.length ≤ sizeLine
  nd : (xs.map (·.1)).Nodup
  ks : ∀ x ∈ xs, KeyAt X H (.ref x.2.1) x.1 ∧ x.1.depth ≤ 8
theorem kv_ks {xs : List (NestedKey × Addr × Value)} {kvs : List (D × D)} (h : DnKv X.prog X.w X.K S H xs kvs) : ∀ x ∈ xs, KeyAt X H (.ref x.2.1) x.1 ∧ x.1.depth ≤ 8 := by
  induction kvs generalizing xs with
  | nil => cases h; intro x hx; cases hx
  | cons kv kvs ih =>
    cases h with
    | cons e l q r v t =>
      intro x hx
      rcases List.mem_cons.mp hx with rfl | hx
      · exact ⟨keyAt_of q e, l⟩
      · exact ih t x hx
theorem DcAt.of {pins : List (Addr × Obj)} {σ : Sg} {s : Shared} {a : Addr} {o : Obj} {xs : List (NestedKey × Addr × Value)} (h : DcAt X H a o xs) (I : Inv X pins σ H s) :
    s.heap.get? a = some o ∧ o.ExactDict ∧ (∃ es ep, o.data = .dict es ep ∧ es.toList = xs.map (entryOfKey (nestedKind X.prog X.w))) ∧ s.heap.DictOfH (nestedKind X.prog X.w) a xs := by
  obtain ⟨⟨h1, h2, es, ep, h3, h4⟩, _, _⟩ := I.hok a _ h.e
  exact ⟨h1, h2, ⟨es, ep, h3, h4⟩, o, es, ep, h1, h2, h3, h4, fun x hx => ⟨(h.ks x hx).1 pins σ s _ I rfl, (h.ks x hx).2⟩, h.nd⟩
/-- where a dict of data stands -/
theorem dc_of {v : V} {kvs : List (D × D)} (h : Bd X.prog X.w X.K S H v (.dict kvs)) : ∃ a o xs, v = .ref a ∧ DcAt X H a o xs ∧ DnKv X.prog X.w X.K S H xs kvs := by
  rcases h with h | ⟨a, rfl, xs, o, e, m, l, n, q⟩
  · cases h with
    | dic s e m l n q => exact ⟨_, _, _, rfl, ⟨e, m, l, n, kv_ks q⟩, q⟩
  · exact ⟨a, o, xs, rfl, ⟨e, m, l, n, kv_ks q⟩, q⟩

/-! ### what a dict of data holds -/
def isKey (k : NestedKey) (d : D) : Bool := match keyOf d with
  | some m => decide (m = k)
  | none => false
def dGet (kvs : List (D × D)) (k : NestedKey) : Option D := (kvs.find? fun kv => isKey k kv.1).map (·.2)
def dPut (kvs : List (D × D)) (k : NestedKey) (kd d : D) : List (D × D) := if (dGet kvs k).isSome = true then kvs.map (fun kv => if isKey k kv.1 = true then (kv.1, d) else kv) else kvs ++ [(kd, d)]
theorem at_kv {xs : List (NestedKey × Addr × Value)} {kvs : List (D × D)} (h : DnKv X.prog X.w X.K S H xs kvs) (k : NestedKey) :
    (atKey xs k = none ∧ dGet kvs k = none) ∨ ∃ p v d, atKey xs k = some p ∧ dGet kvs k = some d ∧ RelV v p.2 ∧ Dn X.prog X.w X.K S H v d := by
  induction kvs generalizing xs with
  | nil => cases h; exact .inl ⟨rfl, rfl⟩
  | cons kv kvs ih =>
    cases h with
    | cons e l q r v t =>
      rename_i nk ka val w' kd vd xs
      unfold atKey dGet
      by_cases hk : nk = k
      · refine .inr ⟨(ka, val), w', vd, ?_, ?_, r, v⟩
        · simp [hk]
        · simp [isKey, e, hk]
      · rcases ih t with ⟨z1, z2⟩ | ⟨p, v', d, z1, z2, z3, z4⟩
        · refine .inl ⟨?_, ?_⟩
          · unfold atKey at z1; simpa [hk] using z1
          · unfold dGet at z2; simpa [isKey, e, hk] using z2
        · refine .inr ⟨p, v', d, ?_, ?_, z3, z4⟩
          · unfold atKey at z1; simpa [hk] using z1
          · unfold dGet at z2; simpa [isKey, e, hk] using z2
theorem put_kv {xs : List (NestedKey × Addr × Value)} {kvs : List (D × D)} {k : NestedKey} {ka : Addr} {kd d : D} {v : V} {val : Value} (h : DnKv X.prog X.w X.K S H xs kvs) (hk : keyOf kd = some k) (hl : k.depth ≤ 8) (hq : Dn X.prog X.w X.K S H (.ref ka) kd) (r : RelV v val) (hv : Dn X.prog X.w X.K S H v d) :
    DnKv X.prog X.w X.K S H (storedH xs k ka val) (dPut kvs k kd d) := by
  have app : ∀ {xs : List (NestedKey × Addr × Value)} {kvs : List (D × D)}, DnKv X.prog X.w X.K S H xs kvs → DnKv X.prog X.w X.K S H (xs ++ [(k, ka, val)]) (kvs ++ [(kd, d)]) := by
    intro xs kvs h
    induction kvs generalizing xs with
    | nil => cases h; exact .cons hk hl hq r hv .nil
    | cons kv kvs ih =>
      cases h with
      | cons e l q r' v' t => exact .cons e l q r' v' (ih t)
  have upd : ∀ {xs : List (NestedKey × Addr × Value)} {kvs : List (D × D)}, DnKv X.prog X.w X.K S H xs kvs → DnKv X.prog X.w X.K S H (xs.map (putAt k val)) (kvs.map fun kv => if isKey k kv.1 = true then (kv.1, d) else kv) := by
    intro xs kvs h
    induction kvs generalizing xs with
    | nil => cases h; exact .nil
    | cons kv kvs ih =>
      cases h with
      | cons e l q r' v' t =>
        rename_i nk ka' val' w' kd' vd' xs
        rw [List.map_cons, List.map_cons]
        by_cases hk' : nk = k
        · subst hk'
          have e1 : isKey nk kd' = true := by simp [isKey, e]
          have e2 : putAt nk val (nk, ka', val') = (nk, ka', val) := by simp [putAt]
          simp only [e1, e2, if_true]
          exact .cons e l q r hv (ih t)
        · have e1 : isKey k kd' = false := by simp [isKey, e, hk']
          have e2 : putAt k val (nk, ka', val') = (nk, ka', val') := by simp [putAt, hk']
          simp only [e1, e2, Bool.false_eq_true, if_false]
          exact .cons e l q r' v' (ih t)
  unfold storedH dPut
  rcases at_kv h k with ⟨z1, z2⟩ | ⟨p, v', d', z1, z2, _, _⟩
  · rw [z1, z2]
    exact app h
  · rw [z1, z2]
    exact upd h
theorem put_len (kvs : List (D × D)) (k : NestedKey) (kd d : D) : (dPut kvs k kd d).length ≤ kvs.length + 1 := by
  unfold dPut
  split <;> simp
theorem kv_len {xs : List (NestedKey × Addr × Value)} {kvs : List (D × D)} (h : DnKv X.prog X.w X.K S H xs kvs) : xs.length = kvs.length := by
  induction kvs generalizing xs with
  | nil => cases h; rfl
  | cons kv kvs ih => cases h with | cons e l q r v t => simp [ih t]
end

/-! ### d[k] -/
def rIxDic (X : Cx) : R2 := fun x y H Q => ∃ a o xs kb k p v, x = .ref a ∧ y = .ref kb ∧ DcAt X H a o xs ∧ KeyAt X H (.ref kb) k ∧ k.depth ≤ 8 ∧ atKey xs k = some p ∧ RelV v p.2 ∧ Q v H
section
variable {X : Cx} {W : WX} {XR : XRep}
theorem ix_dic (hu : X.A.units + 9 < cLine) : IxR X (rIxDic X) := by
  intro value slice pins st σ H x y v u Q I rx ry hh hs
  obtain ⟨a, o, xs, kb, k, p, w, rfl, rfl, dc, hk, hl, hp, rw', q⟩ := hh
  cases rx
  cases ry
  obtain ⟨_, _, _, dd⟩ := dc.of I
  exact PyProof.Rows.tail_any dd.typeIs PySem.F.slot_dict_getitem.lookup (wpAny_getItem_heap (knd := nestedKind X.prog X.w) (show X.A.in1.units + 8 < cLine by show X.A.units + 1 + 8 < cLine; omega) ⟨hk pins σ st _ I rfl, hl⟩ dd hp ⟨w, H, I.tok _, rw', q⟩) hs
/-- a key that a dict may have -/
def keyT (d : D) : Option NestedKey := match d with
  | .tuple _ => match keyOf d with
    | some k => if Nat.ble k.depth 8 then some k else none
    | none => none
  | _ => none
theorem keyT_of {S : Addr → Prop} {H : Hp} {v : V} {d : D} {k : NestedKey} (h : keyT d = some k) (q : Bd X.prog X.w X.K S H v d) : ∃ kb, v = .ref kb ∧ Dn X.prog X.w X.K S H v d ∧ keyOf d = some k ∧ k.depth ≤ 8 := by
  unfold keyT at h
  split at h
  · split at h
    · rename_i ds k' e
      split at h
      · rename_i hz
        cases h
        obtain ⟨q1, a, xs, rfl, _, _⟩ := tup_of q
        exact ⟨a, rfl, q1, e, Nat.le_of_ble_eq_true hz⟩
      · cases h
    · cases h
  · cases h
def ixK : D → D → Option D := fun d e => match d with
  | .dict kvs => match keyT e with
    | some k => dGet kvs k
    | none => none
  | _ => none
theorem ser_ixK : Ser X (rIxDic X) ixK := fun F ρ σ H x y d e z Q R bx byy ez k => by
  cases d with
  | dict kvs =>
    unfold ixK at ez
    simp only at ez
    split at ez
    · rename_i nk hk
      obtain ⟨a, o, xs, rfl, dc, dn⟩ := dc_of bx
      obtain ⟨kb, rfl, q, e1, e2⟩ := keyT_of hk byy
      rcases at_kv dn nk with ⟨z1, z2⟩ | ⟨p, v, d, z1, z2, z3, z4⟩
      · rw [z2] at ez; cases ez
      · rw [z2] at ez
        cases ez
        exact ⟨a, o, xs, kb, nk, p, v, rfl, rfl, dc, keyAt_of q e1, e2, z1, z3, k v H R (fun _ _ q => q) z4⟩
    · cases ez
  | _ => cases ez
/-- of either kind -/
theorem Ser.or {r r' : R2} {f g : D → D → Option D} (h : Ser X r f) (h' : Ser X r' g) : Ser X (fun x y H Q => r x y H Q ∨ r' x y H Q) (fun d e => (f d e).orElse fun _ => g d e) := fun F ρ σ H x y d e z Q R bx byy ez k => by
  cases e1 : f d e with
  | some z' =>
    simp only [e1, Option.orElse] at ez
    cases ez
    exact .inl (h F ρ σ H x y d e z Q R bx byy e1 k)
  | none =>
    simp only [e1, Option.orElse] at ez
    exact .inr (h' F ρ σ H x y d e z Q R bx byy ez k)
/-- a made list as data -/
theorem SerF.ser {r : R2} {f : D → D → Option D} (h : SerF X r f) : Ser X r f := fun F ρ σ H x y d e z Q R bx byy ez k =>
  h F ρ σ H x y d e z Q R bx byy ez fun a H' R' g n ob => k _ H' (R'.but fun _ => R.fresh a n) g (ob.dn (S := Al (F.but a) ρ σ) (R.new n) Fr.but_le)
def ixU : D → D → Option D := fun d e => (ixD d e).orElse fun _ => ixK d e
theorem e_ixU {a b : Expr} {pos : Pos} {u v t s : Bool} {m n : M D} (hu : X.A.units + 9 < cLine) (hc : (u && s) = false) (hs : PlainIx b) (ha : PE X a (TG X W XR u t m)) (hb : PE X b (TG X W XR v s n)) : PE X (.Subscript a b pos) (TG X W XR false (t || s) (bin ixU m n)) :=
  PEi (pe_ix (ix_seq.or (ix_dic hu)) ha hb hs) (t_bin hc (fun _ _ _ h => h) (fun _ _ _ h => h) (ser_ix.or ser_ixK))

/-- a[b] of a name's object, which is not changed while b is found -/
theorem e_ixW {a b : Expr} {pos : Pos} {i : Nat} {v s : Bool} {n : M D} (hu : X.A.units + 9 < cLine) (hs : PlainIx b) (ha : PE X a (tVar i)) (hb : PE X b (TG X W XR v s n)) : PE X (.Subscript a b pos) (TG X W XR false s (bin ixU (wvM i) n)) :=
  PEi (pe_ix (ix_seq.or (ix_dic hu)) ha hb hs) fun σ H Q ⟨F, ρ, R, z⟩ => by
    by_cases hbo : ∃ d, ρ i = .bo d
    · obtain ⟨d, hbo⟩ := hbo
      obtain ⟨x, h1, h2⟩ := R.bo i d hbo
      have e0 : wvM i ρ = .ok d ρ := by unfold wvM; rw [hbo]
      unfold bin M.bind at z
      rw [e0] at z
      refine ⟨x, h1, F, ρ, R, Out.sat_mono (Out.sat_bind.mp z) (fun e ρ2 k2 y H2 R2 K2 D2 => ?_) fun _ _ _ h => h⟩
      obtain ⟨c, e1, k3⟩ := satl k2
      have bd : Bd X.prog X.w X.K (Al F ρ2 σ) H2 x d := by
        rcases h2 with h2 | ⟨a, rfl, q, q3, _⟩
        · exact .inl (Dn.kp K2 h2)
        · exact .inr ⟨a, rfl, Rb.mono K2.al (fun o h => K2.kp a o h fun _ => q3) q⟩
      exact (ser_ix.or ser_ixK) F ρ2 σ H2 x y d e c Q R2 bd D2.bd e1 fun v3 H3 R3 g D3 => k3 v3 H3 R3 ((K2.trans (Kp.grow (t := false) g)).up (by simp)) D3
    · have e0 : wvM i ρ = vrM i ρ := by
        unfold wvM
        split
        · rename_i d hd
          exact absurd ⟨d, hd⟩ hbo
        · rfl
      have z' : (bin ixU (vrM i) n ρ).sat (fun d ρ' => ∀ v H', Rel X.prog X.w X.K F ρ' σ H' → Kp s ρ ρ' σ H H' → Rg X.prog X.w X.K false (Al F ρ' σ) H' v d → Q v H') (Xw X.prog X.w X.K W XR F σ) := by
        unfold bin M.bind at z ⊢
        rw [← e0]
        exact z
      have tv : ∀ σ H Q, TG X W XR false false (vrM i) σ H Q → tVar i σ H Q := fun σ H Q ⟨F, ρ, R, z⟩ => by
        unfold vrM at z
        cases e : ρ i with
        | im d =>
          rw [e] at z
          obtain ⟨v, h1, h2⟩ := R.im i d e
          exact ⟨v, h1, z v H R .refl h2⟩
        | mu d =>
          rw [e] at z
          obtain ⟨R', k, a, h1, h2, h3⟩ := R.freeze e
          exact ⟨_, h1, z _ H R' k (h3.dn (S := Al F (ρ.put i (.im d)) σ) h2 fun _ s => s)⟩
        | _ => rw [e] at z; exact z.elim
      exact t_bin (u := false) (t := false) rfl tv (fun _ _ _ h => h) (ser_ix.or ser_ixK) σ H Q ⟨F, ρ, R, by rw [Bool.false_or]; exact z'⟩

/-! ### {} -/
theorem pe_dnew {pos : Pos} : PE X (.Dict [] [] pos) (fun σ H Q => ∀ p, H p = none → (p == sysModules) = false → Q (.ref p) (upd H p (dictO X.prog X.w p { cls := .type "dict", data := .dict #[] } []))) := ⟨fun pins s σ H Q I h => by
  have hb : (s.heap.objs.size == sysModules) = false := beq_eq_false_iff_ne.mpr (Ne.symm (Nat.ne_of_lt I.big))
  refine wpAny_Dict_empty ⟨.ref s.heap.objs.size, _, I.laid (a := s.heap.objs.size) (o := dictO X.prog X.w s.heap.objs.size { cls := .type "dict", data := .dict #[] } []) (t' := s.toks) (fun _ _ q => Heap.get?_push_of_some _ q) (Nat.le_refl _) ?_, rfl, h _ (I.hok.fresh (Nat.le_refl _)) hb⟩
  exact ⟨⟨Heap.get?_push_size _ rfl, ⟨rfl, rfl, rfl⟩, _, _, rfl, rfl⟩, ⟨_, Heap.get?_push_size _ rfl⟩, fun h1 h2 ⟨z1, z2⟩ k => ⟨k _ z1, z2⟩⟩⟩
theorem e_dnew {pos : Pos} : PE X (.Dict [] [] pos) (TF X W XR false (M.pure (.dict []))) := PEi pe_dnew fun σ H Q ⟨F, ρ, R, z⟩ p hp hs => by
  refine z p _ (R.alloc hp (g_upd hp) (by rw [upd_same]; exact fun y => nomatch y)) (Kp.grow (g_upd hp)) hp ⟨[], _, upd_same, hs, Nat.zero_le _, List.nodup_nil, .nil⟩

/-! ### d.get(k, x) -/
def tMx (X : Cx) (r : V → List V → Hp → VK → Prop) (to : TE) (t : TA) : TE := fun σ H Q => to σ H fun x H1 => (∃ a o xs, x = .ref a ∧ DcAt X H1 a o xs) ∧ t σ H1 fun vs H2 => r x vs H2 Q
theorem pe_bmx {ob e : Expr} {es : List Expr} {to : TE} {t : TA} {name : Str} {apos cpos : Pos} {id : String} {r : V → List V → Hp → VK → Prop} (slot : Slot "dict" name id) (hty : typeOf (.builtin id) = pure (.type "method_descriptor")) (hm : MtR X id r) (ho : PE X ob to) (ha : PA X (e :: es) t)
    (hbase : attributeBase ob name X.env (eval ob X.env) = eval ob X.env)
    (hfew : ((backTo cpos (starEach (e :: es) X.env)).all (fun x => !x.1) && (backToKw cpos (keywordEach [] X.env)).all (fun x => x.1.isSome)
      && decide ((e :: es).length + ([] : List Keyword).length + (if ([] : List Keyword).isEmpty then 0 else 1) < 30)) = true)
    (hline : (apos.endLine == cpos.line) = true) (hs : starEach (e :: es) X.env = (false, eval e X.env) :: starEach es X.env) (hplain : (backTo cpos (starEach es X.env)).any (·.1) = false) :
    PE X (.Call (.Attribute ob name apos) (e :: es) [] cpos) (tMx X r to t) := ⟨fun pins s σ H Q I h => by
  refine wpAny_Call_method_late hbase hfew hline rfl (thn (ho.run pins s σ H _ I h) fun v s1 ⟨x, H1, I1, r1, ty, q1⟩ => ?_)
  obtain ⟨a, o, xs, rfl, dc⟩ := ty
  cases r1
  obtain ⟨h1, h2, _, dd⟩ := dc.of I1
  refine ⟨"dict", id, PySem.F.plainAttrs_dict, slot, hty, dd.typeIs, fun b e => ⟨o, by cases e; exact h1, h2.2.1⟩, ?_⟩
  have hA := ha.run cpos pins s1 σ H1 _ I1 q1
  rw [hs] at hA ⊢
  refine Calls.callWith_builtin (by show (false || (backTo cpos (starEach es X.env)).any (·.1)) = false; rw [hplain] <;> rfl) (Calls.evalArgs_plain ?_)
  exact thn hA fun us s2 ⟨vs, H2, I2, r2, q2⟩ => hm pins s2 σ H2 (.ref a) vs (.ref a) us Q I2 rfl r2 q2⟩
def rGetDic (X : Cx) : V → List V → Hp → VK → Prop := fun x vs H Q => ∃ a o xs kb k y, x = .ref a ∧ vs = [.ref kb, y] ∧ DcAt X H a o xs ∧ KeyAt X H (.ref kb) k ∧ k.depth ≤ 8 ∧
  ((atKey xs k = none ∧ Q y H) ∨ ∃ p v, atKey xs k = some p ∧ RelV v p.2 ∧ Q v H)
theorem mt_getDic (hu : X.A.units + 9 < cLine) : MtR X "dict.get" (rGetDic X) := by
  intro pins st σ H x vs v us Q I rx rv hh
  obtain ⟨a, o, xs, kb, k, y, rfl, rfl, dc, hk, hl, q⟩ := hh
  cases rx
  obtain ⟨_, _, _, dd⟩ := dc.of I
  cases rv with
  | cons r1 rv => cases rv with
    | cons r2 rv =>
      cases rv
      cases r1
      refine getOr_keyed (knd := nestedKind X.prog X.w) (show X.A.in1.units + 8 < cLine by show X.A.units + 1 + 8 < cLine; omega) ⟨hk pins σ st _ I rfl, hl⟩ dc.sy ⟨xs, dd, rfl⟩ ?_
      rw [valueAt_pairsH]
      rcases q with ⟨e, q⟩ | ⟨p, w, e, rw', q⟩
      · rw [e]; exact ⟨y, H, I.tok _, r2, q⟩
      · rw [e]; exact ⟨w, H, I.tok _, rw', q⟩
def getF (kvs : List (D × D)) : List D → Option D
  | [k, x] => (keyT k).map fun nk => (dGet kvs nk).getD x
  | _ => none
theorem getF_of {kvs : List (D × D)} {es : List D} {c : D} (h : getF kvs es = some c) : ∃ kd x nk, es = [kd, x] ∧ keyT kd = some nk ∧ c = (dGet kvs nk).getD x := by
  unfold getF at h
  split at h
  · rename_i kd x
    obtain ⟨nk, e, rfl⟩ := Option.map_eq_some_iff.mp h
    exact ⟨kd, x, nk, rfl, e, rfl⟩
  · cases h
def getM (m : M D) (as : M (List D)) : M D := M.bind m fun d => match d with
  | .dict kvs => M.bind as fun es => M.lift (getF kvs es)
  | _ => fun _ => .bad
theorem e_getDic {ob e : Expr} {es : List Expr} {u t : Bool} {m : M D} {as : M (List D)} {apos cpos : Pos} (hu : X.A.units + 9 < cLine) (ho : PE X ob (TG X W XR u t m)) (ha : PA X (e :: es) (TAs X W XR false as))
    (hbase : attributeBase ob "get" X.env (eval ob X.env) = eval ob X.env)
    (hfew : ((backTo cpos (starEach (e :: es) X.env)).all (fun x => !x.1) && (backToKw cpos (keywordEach [] X.env)).all (fun x => x.1.isSome)
      && decide ((e :: es).length + ([] : List Keyword).length + (if ([] : List Keyword).isEmpty then 0 else 1) < 30)) = true)
    (hline : (apos.endLine == cpos.line) = true) (hs : starEach (e :: es) X.env = (false, eval e X.env) :: starEach es X.env) (hplain : (backTo cpos (starEach es X.env)).any (·.1) = false) :
    PE X (.Call (.Attribute ob "get" apos) (e :: es) [] cpos) (TG X W XR false t (getM m as)) := PEi (pe_bmx PySem.F.slot_dict_get PySem.F.type_dict_get (mt_getDic hu) ho ha hbase hfew hline hs hplain) fun σ H Q ⟨F, ρ, R, z⟩ =>
  ⟨F, ρ, R, Out.sat_mono (sat2 z) (fun d ρ1 k v H1 R1 K1 D1 => by
    cases d with
    | dict kvs =>
      obtain ⟨a, o, xs, rfl, dc, dn⟩ := dc_of D1.bd
      refine ⟨⟨a, o, xs, rfl, dc⟩, F, ρ1, R1, Out.sat_mono (sat2 k) (fun ds ρ2 k vs H2 R2 K2 D2 => ?_) fun _ _ _ h => h⟩
      have D1' : Bd X.prog X.w X.K (Al F ρ2 σ) H2 (.ref a) (.dict kvs) := Bd.kp K2 D1.bd
      obtain ⟨a', o, xs, e, dc, dn⟩ := dc_of D1'
      cases e
      obtain ⟨c, e1, k⟩ := satl k
      obtain ⟨kd, x, nk, rfl, hk, rfl⟩ := getF_of e1
      cases D2 with
      | cons q1 q2 => cases q2 with
        | cons q2 q3 =>
          cases q3
          obtain ⟨kb, rfl, q, e1, e2⟩ := keyT_of hk (.inl q1)
          have K12 : Kp t ρ ρ2 σ H H2 := (K1.trans K2).up (by simp)
          refine ⟨a, o, xs, kb, nk, _, rfl, rfl, dc, keyAt_of q e1, e2, ?_⟩
          rcases at_kv dn nk with ⟨z1, z2⟩ | ⟨p, v, d, z1, z2, z3, z4⟩
          · exact .inl ⟨z1, k _ H2 R2 K12 (by rw [z2]; exact q2)⟩
          · exact .inr ⟨p, v, z1, z3, k v H2 R2 K12 (by rw [z2]; exact z4)⟩
    | _ => exact k.elim) fun _ _ _ h => h⟩

/-! ### d[k] = v -/
def rSetDic (X : Cx) : TSet := fun x y v H Q => ∃ a o xs kb k, x = .ref a ∧ y = .ref kb ∧ DcAt X H a o xs ∧ KeyAt X H (.ref kb) k ∧ k.depth ≤ 8 ∧ xs.length + 1 ≤ sizeLine ∧
  ∀ o' val, RelV v val → ((storedH xs k kb val).map (·.1)).Nodup → Q (upd H a (dictO X.prog X.w a o' (storedH xs k kb val)))
theorem set_dic (hu : X.A.units + 9 < cLine) : PSet X (rSetDic X) := by
  intro pins st σ H x y v xv yv vv Q I rx ry rv hh
  obtain ⟨a, o, xs, kb, k, rfl, rfl, dc, hk, hl, hz, q⟩ := hh
  cases rx
  cases ry
  obtain ⟨_, _, _, dd⟩ := dc.of I
  refine wpAny_setItem_heap (knd := nestedKind X.prog X.w) (hsz := by omega) (show X.A.in1.units + 8 < cLine by show X.A.units + 1 + 8 < cLine; omega) ⟨hk pins σ st _ I rfl, hl⟩ dd fun h' dd' hs => ?_
  obtain ⟨o', es, ep, e1, e2, e3, e4, _, e6⟩ := dd'
  refine ⟨_, d_write I (by rw [dc.e]; exact True.intro) hs ⟨o', e1⟩ ?_, q o' vv rv e6⟩
  exact ⟨⟨e1, e2, es, ep, e3, e4⟩, ⟨o', e1⟩, fun h1 h2 ⟨z1, z2⟩ k => ⟨k _ z1, z2⟩⟩
/-- the own dict of a slot -/
def ownD (ρ : Env) (i : Nat) : Option (List (D × D)) := match (ρ i).val with
  | some (.dict kvs) => some kvs
  | _ => none
def setDM (i : Nat) (mk m : M D) : MS := M.bind m fun d => fun ρ => match ownD ρ i with
  | none => .bad
  | some _ => (M.bind mk fun k => fun ρ => match ownD ρ i, keyT k with
    | some kvs, some nk => if szOk (kvs.length + 1) then .ok .nx (upM ρ i (.dict (dPut kvs nk k d))) else .bad
    | _, _ => .bad) ρ
theorem ownD_of {F : Fr} {ρ : Env} {σ : Sg} {H : Hp} {i : Nat} {kvs : List (D × D)} (R : Rel X.prog X.w X.K F ρ σ H) (e : ownD ρ i = some kvs) : ∃ a xs o, σ[i]? = some (some (.ref a)) ∧ DcAt X H a o xs ∧ DnKv X.prog X.w X.K (Al F ρ σ) H xs kvs ∧ (ρ i).isM = true := by
  unfold ownD at e
  split at e
  · rename_i es h
    cases e
    obtain ⟨a, h1, ⟨xs, o, e, m, l, n, q⟩, h4⟩ := R.there h
    exact ⟨a, xs, o, h1, ⟨e, m, l, n, kv_ks q⟩, q, h4⟩
  · cases e
theorem s_setD {fr : Bool} {te tx : TE} {t s : Bool} {i : Nat} {mk m : M D} (h : ∀ σ H Q, TG X W XR false t m σ H Q → te σ H Q) (hi : ∀ σ H Q, TG X W XR false s mk σ H Q → tx σ H Q) :
    ∀ En σ H, TSr X W XR fr (setDM i mk m) En σ H → tAsg te (gSub (tVar i) tx (rSetDic X)) En σ H := fun En σ H ⟨F, ρ, R, z⟩ => by
  refine h _ _ _ ⟨F, ρ, R, Out.sat_mono (sat2 z) (fun d ρ1 k v H1 R1 K1 D1 => ?_) fun _ _ _ h => Xw_of h⟩
  cases e0 : ownD ρ1 i with
  | none => simp only [e0] at k; exact k.elim
  | some kv0 =>
    simp only [e0] at k
    obtain ⟨a, _, _, h1, _, _, _⟩ := ownD_of R1 e0
    refine ⟨_, h1, hi _ _ _ ⟨F, ρ1, R1, Out.sat_mono (sat2 k) (fun kd ρ2 k w H2 R2 K2 D2 => ?_) fun _ _ _ h => Xw_of h⟩⟩
    have Dv := Dn.kp K2 D1
    cases e1 : ownD ρ2 i with
    | none => simp only [e1] at k; exact k.elim
    | some kvs =>
      cases e2 : keyT kd with
      | none => simp only [e1, e2] at k; exact k.elim
      | some nk =>
        simp only [e1, e2] at k
        split at k
        · rename_i hz
          obtain ⟨b, xs, o, q1, dc, dn, q4⟩ := ownD_of R2 e1
          rw [h1] at q1
          cases q1
          obtain ⟨kb, rfl, q, e3, e4⟩ := keyT_of e2 (.inl D2)
          have ln := szOk_le hz
          have l1 := kv_len dn
          refine ⟨a, o, xs, kb, nk, rfl, rfl, dc, keyAt_of q e3, e4, by omega, fun o' val rv nd => ?_⟩
          have put := put_kv dn e3 e4 q rv Dv
          obtain ⟨R3, K3⟩ := R2.write (d := .dict (dPut kvs nk kd d)) q4 h1 (o := dictO X.prog X.w a o' (storedH xs nk kb val)) ⟨_, o', upd_same, dc.sy, by
              have l2 := kv_len put
              have l3 := put_len kvs nk kd d
              omega, nd, DnKv.mono (fun b o s e => ⟨s, by rw [upd_ne fun z => s.2 (by rw [z]; exact ⟨i, q4, h1⟩)]; exact e⟩) put⟩
          exact k σ _ R3 ((K1.dk.trans K2.dk).trans K3.dk)
        · exact k.elim

/-! ### for k in d -/
def ItDic (P : Program) (w : World) (a : Addr) (o : Obj) (xs : List (NestedKey × Addr × Value)) : It :=
  ⟨fun i H => H a = some (dictO P w a o xs) ∧ i < xs.length, fun i H x H' => H' = H ∧ ∃ e, xs[i]? = some e ∧ x = .ref e.2.1, fun i H => H a = some (dictO P w a o xs) ∧ xs.length ≤ i⟩
theorem dic_raw {pins : List (Addr × Obj)} {σ : Sg} {H : Hp} {s : Shared} {a : Addr} {o : Obj} {xs : List (NestedKey × Addr × Value)} (I : Inv X pins σ H s) (h : H a = some (dictO X.prog X.w a o xs)) :
    s.heap.get? a = some o ∧ o.ExactDict ∧ ∃ es ep, o.data = .dict es ep ∧ es.toList = xs.map (entryOfKey (nestedKind X.prog X.w)) := (I.hok a _ h).1
theorem turn_dic {P : Program} {w : World} {K : PySem.W.Frag} {tg : Expr} {a : Addr} {o : Obj} {xs : List (NestedKey × Addr × Value)} {es : Array DictEntry} {ep : Nat} (it : Addr) (hod : o.data = .dict es ep) : Turn P w K tg (ItDic P w a o xs) [it] it (fun i h => h.IsKeyIter it a i xs.length ep) where
  mem := by simp
  obj := fun i h st b hb => by
    obtain rfl : b = it := by simpa using hb
    obtain ⟨oi, e, c, dd⟩ := st
    exact ⟨oi, e, fun v z => by rw [dd] at z; cases z⟩
  keep := fun i h h' st k => st.at fun oi e => k it (by simp) oi e
  item := by
    intro Y hP hw hK hc i pins st σ H E I hf hst hgo
    subst hP hw hK
    obtain ⟨hd, hi⟩ := hgo
    obtain ⟨g0, g1, g2, g3, g4, g5⟩ := hf it (by simp)
    obtain ⟨hgd, hx, es', ep', hdt, he⟩ := dic_raw I hd
    obtain ⟨rfl, rfl⟩ := dict_ep hod hdt
    have hsz : es'.size = xs.length := size_of_entries he
    have hen := entry_at he i
    rw [List.getElem?_eq_getElem hi] at hen
    refine next_key_item hst hgd hdt hsz hen fun h' st' sb => ?_
    have I1 : Inv Y pins σ H { st with heap := h' } := I.turned (t' := st.toks) (fun b ob hb e => (sb.2 b hb).trans e) g0 g1 g3 g4 g5
    obtain ⟨oi, e, c, dd⟩ := id st'
    exact ⟨_, rfl, go_of (s := { st with heap := h' }) e c dd (by decide) ⟨.ref xs[i].2.1, H, I1, rfl, ⟨rfl, _, List.getElem?_eq_getElem hi, rfl⟩, st', fun b hb => (hf b hb).1⟩⟩
  done := by
    intro Y hP hw hK hc i pins st σ H E I hf hst hgo
    subst hP hw hK
    obtain ⟨hd, hi⟩ := hgo
    obtain ⟨g0, g1, g2, g3, g4, g5⟩ := hf it (by simp)
    obtain ⟨hgd, hx, es', ep', hdt, he⟩ := dic_raw I hd
    obtain ⟨rfl, rfl⟩ := dict_ep hod hdt
    exact next_key_end (I.ok.hd hc) hst hgd hdt (size_of_entries he) hi fun h' eb => ⟨rfl, I.turned (t' := st.toks) (fun b ob hb e => eb b ob hb e) g0 g1 g3 g4 g5⟩
  self := fun A i st Q E hst h => by
    refine wpAny_pyIter_slot hst.typeIs PySem.F.slot_dict_keyiterator_iter (wpAny_call_entry PySem.F.slot_dict_keyiterator_iter hst.typeIs PySem.F.entry_dict_keyiterator_iter ?_ (PySem.F.args_dict_keyiterator_iter_1 _))
    show wpAny _ _ (ret (.ref it)) _ _ st
    exact wpAny_pure ⟨_, rfl, "dict_keyiterator", _, hst.typeIs, PySem.F.slot_dict_keyiterator_next.lookup, h⟩
theorem pi_dic {tg e : Expr} {te : TE} (he : PE X e te) : PI X tg e (fun σ H R => te σ H fun x H1 => ∃ a o xs, x = .ref a ∧ DcAt X H1 a o xs ∧ R (ItDic X.prog X.w a o xs) H1) := ⟨fun pins s σ H R I h => by
  refine thn (he.run pins s σ H _ I h) fun u s1 ⟨x, H1, I1, rx, a, o, xs, ex, dc, q⟩ => ?_
  subst ex
  cases rx
  obtain ⟨hgd, hx, ⟨es, ep, hdt, he⟩, _⟩ := dc.of I1
  refine iter_keys dc.sy hgd hx hdt (pi_one (tk := s1.toks) I1 _ (turn_dic _ hdt) ⟨_, Heap.get?_push_size _ rfl, rfl, ?_⟩ q)
  rw [← size_of_entries he] <;> rfl⟩
end
end Rf
end
section
set_option Elab.async false
set_option linter.all false
set_option maxRecDepth 100000
set_option maxHeartbeats 2000000
/-! Rf, part M: from text to what it computes: names, built-ins, the small constructs. -/
namespace Rf
open PySem PySem.Spec L2

/-! ### contexts -/
/-- what a name of the module stands for -/
inductive Gv where
  | con (d : D)
  | fn (ms : List Md) (fr : Bool) (f : Fn)
  | gcd
  | cls (n : Nat) (f : Str) (base : String)
structure Cc where
  N : List Str
  sc : Scope
  G : List (Str × Gv)
  B : List Str
  W : List Str
/-- the built-ins that may be used -/
def bltOf : List (Str × Value) := [("len", .builtin "len"), ("abs", .builtin "abs"), ("int", .type "int"), ("tuple", .type "tuple"), ("list", .type "list"), ("sorted", .builtin "sorted"), ("all", .builtin "all"), ("any", .builtin "any"), ("sum", .builtin "sum"),
  ("max", .builtin "max"), ("min", .builtin "min"), ("isinstance", .builtin "isinstance"), ("range", .type "range"), ("enumerate", .type "enumerate"), ("zip", .type "zip"), ("set", .type "set"), ("bool", .type "bool"), ("str", .type "str"), ("reversed", .type "reversed")]
theorem blt_boot : ∀ p ∈ bltOf, bootBuiltins p.1 = some p.2 ∧ p.1 ≠ "__name__" ∧ (p.1 == ("__debug__" : Str)) = false := by
  intro p hp
  unfold bltOf at hp
  simp only [List.mem_cons, List.not_mem_nil, or_false] at hp
  rcases hp with rfl | rfl | rfl | rfl | rfl | rfl | rfl | rfl | rfl | rfl | rfl | rfl | rfl | rfl | rfl | rfl | rfl | rfl | rfl <;> exact ⟨by kernel_rfl, by decide, by decide⟩
def GvOk (X : Cx) (XR : XRep) (x : Str) : Gv → Prop
  | .con d => ∃ u v, X.mg x = some u ∧ RelV v u ∧ ∀ S H, Dn X.prog X.w X.K S H v d
  | .fn ms fr f => ∃ a fd ps k, FnOk X.prog X.w X.K X.mg X.base (L2.CX X.prog X.w) k a fd ps (spF X.prog X.w X.K XR ms fr f) ∧ Room k X.A ∧ X.mg x = some (.ref a) ∧ PySem.W.keepIn X.K (.ref a) = true ∧ Binds X.K fd ps []
  | .gcd => X.mg x = some (.builtin "math.gcd")
  | .cls n f base => ClsG X XR x n f base
structure Ok (c : Cc) (X : Cx) (W : WX) (XR : XRep) : Prop where
  N : X.N = c.N
  nd : X.N.Nodup
  sc : X.env.scope = c.sc
  kd : X.env.scope.kind = .function
  cl : X.calm = true
  fn : ∀ x, Loc c.sc x → c.W.contains x = false → X.fn x = true ∨ c.sc.names.lookup x = some .local
  tk : Takes X W
  hu : X.A.units + 100 < cLine
  gl : ∀ x g, c.G.lookup x = some g → GvOk X XR x g
  bl : ∀ x ∈ c.B, X.mg x = none

/-! ### results -/
structure RU (c : Cc) (e : Expr) where
  u : Bool
  t : Bool
  m : M D
  p : ∀ X W XR, Ok c X W XR → PE X e (TG X W XR u t m)
structure RF (c : Cc) (e : Expr) where
  t : Bool
  m : M D
  p : ∀ X W XR, Ok c X W XR → PE X e (TF X W XR t m)
structure RT (c : Cc) (e : Expr) where
  t : Bool
  m : M Bool
  p : ∀ X W XR, Ok c X W XR → PT X e (TTs X W XR t m)
structure RA (c : Cc) (es : List Expr) where
  t : Bool
  m : M (List D)
  p : ∀ X W XR, Ok c X W XR → PA X es (TAs X W XR t m)
structure RI (c : Cc) (tg e : Expr) where
  u : Bool
  t : Bool
  m : M (List D)
  p : ∀ X W XR, Ok c X W XR → PI X tg e (ti (X := X) W XR u t m)
structure RP (c : Cc) (e : Expr) where
  q : Pat
  p : ∀ X W XR, Ok c X W XR → PG X e (gP X q)

/-! ### names -/
def visB (c : Cc) (x : Str) (i : Nat) : Bool := decide (c.N[i]? = some x) && (match c.sc.names.lookup x with | some .local => true | some .cell => true | some .free => true | _ => false) && !(x == ("__debug__" : Str)) && !(x == ("__classdict__" : Str))
def locB (c : Cc) (x : Str) (i : Nat) : Bool := decide (c.N[i]? = some x) && (match c.sc.names.lookup x with | some .local => true | some .cell => true | _ => false) && Nat.blt i c.N.length && !(c.W.contains x)
def ixOf (c : Cc) (x : Str) : Nat := c.N.findIdx (· == x)
def glB (c : Cc) (x : Str) : Bool := match c.sc.names.lookup x with
  | some .globalImplicit => true
  | _ => false
theorem visB_of {c : Cc} {x : Str} {i : Nat} {X : Cx} {W : WX} {XR : XRep} (h : visB c x i = true) (ok : Ok c X W XR) (pos : Pos) : PE X (.Name x pos) (tVar i) := by
  unfold visB at h
  simp only [Bool.and_eq_true, decide_eq_true_eq, Bool.not_eq_true'] at h
  refine pe_var (by rw [ok.N]; exact h.1.1.1) ?_ h.1.2 h.2
  unfold Vis
  rw [ok.sc]
  have q := h.1.1.2
  split at q
  · rename_i e; exact .inl e
  · rename_i e; exact .inr (.inl e)
  · rename_i e; exact .inr (.inr e)
  · cases q
theorem locB_of {c : Cc} {x : Str} {i : Nat} {X : Cx} {W : WX} {XR : XRep} (h : locB c x i = true) (ok : Ok c X W XR) (pos : Pos) : PG X (.Name x pos) (gName i) ∧ i < X.N.length ∧ X.N[i]? = some x ∧ Loc c.sc x ∧ (X.fn x = true ∨ c.sc.names.lookup x = some .local) := by
  unfold locB at h
  simp only [Bool.and_eq_true, decide_eq_true_eq, Bool.not_eq_true'] at h
  obtain ⟨h, hw⟩ := h
  have l : Loc c.sc x := by
    have q := h.1.2
    unfold L2.Loc
    split at q
    · rename_i e; exact .inl e
    · rename_i e; exact .inr e
    · cases q
  have hi : X.N[i]? = some x := by rw [ok.N]; exact h.1.1
  refine ⟨pg_name ok.nd hi (by rw [ok.sc]; exact l) (by rw [ok.sc]; exact ok.fn x l hw), by rw [ok.N]; exact Nat.le_of_ble_eq_true h.2, hi, l, ok.fn x l hw⟩
theorem glB_of {c : Cc} {x : Str} {X : Cx} {W : WX} {XR : XRep} (h : glB c x = true) (ok : Ok c X W XR) : Gl X x := by
  unfold glB at h
  unfold Gl PySem.Env.kindOf
  rw [ok.sc]
  split at h
  · assumption
  · cases h
/-- a built-in's name -/
def bnB (c : Cc) (x : Str) (y : Str) : Bool := decide (x = y) && glB c x && c.B.contains x
theorem bnB_of {c : Cc} {x y : Str} {v : Value} {X : Cx} {W : WX} {XR : XRep} (h : bnB c x y = true) (hv : (y, v) ∈ bltOf) (ok : Ok c X W XR) : Bn X x v := by
  unfold bnB at h
  simp only [Bool.and_eq_true, decide_eq_true_eq] at h
  obtain ⟨⟨rfl, h1⟩, h2⟩ := h
  obtain ⟨b1, b2, b3⟩ := blt_boot _ hv
  exact ⟨glB_of h1 ok, ok.bl x (List.contains_iff_mem.mp h2), b1, b2, b3⟩
/-- what a module's name stands for -/
def glo (c : Cc) (x : Str) : Option Gv := if glB c x = true then c.G.lookup x else none
theorem glo_of {c : Cc} {x : Str} {g : Gv} {X : Cx} {W : WX} {XR : XRep} (h : glo c x = some g) (ok : Ok c X W XR) : Gl X x ∧ GvOk X XR x g := by
  unfold glo at h
  split at h
  · rename_i z; exact ⟨glB_of z ok, ok.gl x g h⟩
  · cases h
def noDebug (x : Str) : Bool := !(x == ("__debug__" : Str))
theorem noDebug_of {x : Str} (h : noDebug x = true) : (x == ("__debug__" : Str)) = false := by
  unfold noDebug at h
  simpa using h
def mkName (c : Cc) (x : Str) (pos : Pos) (rd : Bool) : Option (RU c (.Name x pos)) :=
  if h : visB c x (ixOf c x) = true then
    if rd = true then some ⟨true, false, rdM (ixOf c x), fun X W XR ok => e_rd (visB_of h ok pos)⟩
    else some ⟨false, false, vrM (ixOf c x), fun X W XR ok => e_vr (visB_of h ok pos)⟩
  else match g : glo c x with
    | some (.con d) => if hd : noDebug x = true then some ⟨false, false, M.pure d, fun X W XR ok => by
        obtain ⟨h1, u, v, h2, h3, h4⟩ := glo_of g ok
        exact e_con (pe_glob h1 h2 h3 (noDebug_of hd)) h4⟩ else none
    | _ => none
def mkConst (c : Cc) (k : Const) (j : Nat) (pos : Pos) : Option (RU c (.Constant k j pos)) := match k with
  | .int i => some ⟨false, false, M.pure (.int i), fun X W XR ok => e_con pe_int fun _ _ => .int i⟩
  | .bool b => some ⟨false, false, M.pure (.bool b), fun X W XR ok => e_con pe_bl fun _ _ => .bl b⟩
  | .none => some ⟨false, false, M.pure .none, fun X W XR ok => e_con pe_non fun _ _ => .non⟩
  | .str x => some ⟨false, false, M.pure (.str x), fun X W XR ok => e_con pe_str fun _ _ => .str x⟩
  | _ => none

/-! ### list + list -/
def rCatL (K : PySem.W.Frag) : R2 := fun x y H Q => ∃ l b xs zs, x = .ref l ∧ y = .ref b ∧ SqL K H l xs ∧ SqL K H b zs ∧ xs.length + zs.length ≤ sizeLine ∧ ∀ p, H p = none → Q (.ref p) (upd H p (.lst (xs ++ zs)))
section
variable {X : Cx} {W : WX} {XR : XRep}
open PyProof.Rows in
theorem op_catL : OpR X (binaryOp .Add) (rCatL X.K) := by
  intro pins st σ H x y v u Q I rx ry hh
  obtain ⟨l, b, xs, zs, rfl, rfl, hl, hb, hz, q⟩ := hh
  cases rx
  cases ry
  obtain ⟨its, r, ⟨⟨c1, d1, dt1, s1⟩, n, ho, hc, hd, hdt⟩, _⟩ := I.list hl
  obtain ⟨its2, r2, ⟨⟨c2, d2, dt2, s2⟩, n2, ho2, hc2, hd2, hdt2⟩, _⟩ := I.list hb
  simp only at hc hd hdt hc2 hd2 hdt2
  subst hc hd hdt hc2 hd2 hdt2
  have e : its.toArray ++ its2.toArray = (its ++ its2).toArray := by simp
  refine concat_meets ⟨_, ho, rfl⟩ ⟨_, ho2, rfl⟩ noFill_list_add seq_list_add PySem.F.slot_list_add PySem.F.entry_list_add (PySem.F.args_list_add_2 _ _) (list_addW l b its.toArray its2.toArray n n2 none none s1 s2 (by
    have h1 := r.length
    have h2 := r2.length
    simp only [List.size_toArray]
    omega)) ⟨ho, ho2, ?_⟩
  rw [e]
  exact ⟨.ref _, _, I.lnew (t' := st.toks) (r.append r2) (by rw [List.length_append]; exact hz), rfl, q _ (I.hok.fresh (Nat.le_refl _))⟩
theorem serF_cat : SerF X (rCatL X.K) catD := fun F ρ σ H x y d e z Q R bx byy ez k => by
  cases d with
  | list i => cases e with
    | list j =>
      unfold catD at ez
      simp only at ez
      split at ez
      · rename_i hz
        cases ez
        obtain ⟨a, xs, rfl, h1, h2⟩ := lst_of bx
        obtain ⟨b, ys, rfl, h3, h4⟩ := lst_of byy
        exact ⟨a, b, xs, ys, rfl, rfl, h1, h3, by rw [h2.length, h4.length]; exact szOk_le hz, fun p hp => new_lst R hp (h2.append h4) k⟩
      · cases ez
    | _ => cases ez
  | _ => cases e <;> cases ez
def addU : D → D → Option D := fun d e => (addD d e).orElse fun _ => catD d e
theorem op_addU : OpR X (binaryOp .Add) (fun x y H Q => rAddAll X.K x y H Q ∨ rCatL X.K x y H Q) := OpR.or op_addAll op_catL
theorem ser_addU : Ser X (fun x y H Q => rAddAll X.K x y H Q ∨ rCatL X.K x y H Q) addU := ser_add.or serF_cat.ser

/-! ### a op b op' c -/
def chM (f g : D → D → Option D) (a b c : M D) : M D := M.bind a fun x => M.bind b fun y => M.bind (M.lift (f x y)) fun k => M.bind (M.lift (truB k)) fun k => if k = true then M.bind c fun z => M.lift (g y z) else M.pure (.bool false)
theorem t_chain {ta tb tc : TE} {r r' : R2} {f g : D → D → Option D} {t : Bool} {u v w : Bool} {a b c : M D} (hu : (u && t) = false) (ha : ∀ σ H Q, TG X W XR u t a σ H Q → ta σ H Q) (hb : ∀ σ H Q, TG X W XR v false b σ H Q → tb σ H Q) (hc : ∀ σ H Q, TG X W XR w false c σ H Q → tc σ H Q) (hr : Ser X r f) (hr' : Ser X r' g) :
    ∀ σ H Q, TG X W XR false t (chM f g a b c) σ H Q → tChain r r' ta tb tc σ H Q := fun σ H Q ⟨F, ρ, R, z⟩ =>
  ha _ _ _ ⟨F, ρ, R, Out.sat_mono (sat2 z) (fun d ρ1 k x H1 R1 K1 D1 => hb _ _ _ ⟨F, ρ1, R1, Out.sat_mono (sat2 k) (fun e ρ2 k2 y H2 R2 K2 D2 => by
    obtain ⟨q, e1, k3⟩ := satl (sat2 k2)
    obtain ⟨bq, e2, k4⟩ := satl (sat2 k3)
    refine hr F ρ2 σ H2 x y d e q _ R2 (Bd.kp K2 D1.bd) D2.bd e1 fun v3 H3 R3 g3 D3 => ⟨bq, bl_of (.inl D3) e2, ?_⟩
    have K3 := (K1.trans K2).trans (Kp.grow (t := false) g3)
    cases bq with
    | false =>
      rw [if_neg Bool.false_ne_true]
      exact k4 (.bl false) H3 R3 (K3.up (by simp)) (.bl false)
    | true =>
      rw [if_pos rfl]
      refine hc _ _ _ ⟨F, ρ2, R3, Out.sat_mono (sat2 k4) (fun e' ρ4 k5 y4 H4 R4 K4 D4 => ?_) fun _ _ _ h => h⟩
      obtain ⟨q', e3, k6⟩ := satl k5
      exact hr' F ρ4 σ H4 y y4 e e' q' Q R4 (Bd.kp K4 (Bd.kp (Kp.grow (t := false) g3) D2.bd)) D4.bd e3 fun v5 H5 R5 g5 D5 => k6 v5 H5 R5 (((K3.trans K4).trans (Kp.grow (t := false) g5)).up (by simp)) D5) fun _ _ _ h => h⟩) fun _ _ _ h => h⟩
end

/-! ### operators and comparisons -/
/-- what an operator does -/
structure Op2 (op : Operator) where
  f : D → D → Option D
  r : Cx → R2
  o : ∀ X : Cx, OpR X (binaryOp op) (r X)
  s : ∀ X : Cx, Ser X (r X) f
def op2 : (op : Operator) → Option (Op2 op)
  | .Add => some ⟨addU, fun X x y H Q => rAddAll X.K x y H Q ∨ rCatL X.K x y H Q, fun X => op_addU, fun X => ser_addU⟩
  | .Sub => some ⟨subD, fun _ => rI0 fun i j => .int (i - j), fun X => op_sub, fun X => ser_sub⟩
  | .Mult => some ⟨mulD, fun X => rMulAll X.K, fun X => op_mulAll, fun X => ser_mul⟩
  | .FloorDiv => some ⟨fdivD, fun _ => rI CDivD fun i j => .int (i.fdiv j), fun X => op_fdivD, fun X => ser_fdiv⟩
  | .Mod => some ⟨modD, fun _ => rI (fun _ j => j ≠ 0) fun i j => .int (i.fmod j), fun X => op_modN, fun X => ser_mod⟩
  | .Pow => some ⟨powD, fun _ => rI CPow fun i j => .int (i ^ j.toNat), fun X => op_pow, fun X => ser_pow⟩
  | _ => none
structure Cmp2 (op : CmpOp) where
  f : D → D → Option D
  r : Cx → R2
  o : ∀ X : Cx, X.A.units + 100 < cLine → OpR X (compareOp op) (r X)
  s : ∀ X : Cx, Ser X (r X) f
def leD : D → D → Option D := cmpI fun i j => decide (i ≤ j)
def gtD : D → D → Option D := cmpI fun i j => decide (j < i)
def geD : D → D → Option D := cmpI fun i j => decide (j ≤ i)
def cmp2 : (op : CmpOp) → Option (Cmp2 op)
  | .Eq => some ⟨eqD, fun X => rEqD X.K, fun X h => op_eqD (by omega), fun X => ser_eq⟩
  | .NotEq => some ⟨neD, fun X => rNeD X.K, fun X h => op_neD (by omega), fun X => ser_ne⟩
  | .Lt => some ⟨ltD, fun X => rLtD X.K, fun X h => op_ltD (by omega), fun X => ser_lt⟩
  | .LtE => some ⟨leD, fun _ => rI0 fun i j => .bl (decide (i ≤ j)), fun X _ => op_le, fun X => ser_cmpI⟩
  | .Gt => some ⟨gtD, fun _ => rI0 fun i j => .bl (decide (j < i)), fun X _ => op_gt, fun X => ser_cmpI⟩
  | .GtE => some ⟨geD, fun _ => rI0 fun i j => .bl (decide (j ≤ i)), fun X _ => op_ge, fun X => ser_cmpI⟩
  | .Is => some ⟨isND, fun _ => fun x y H Q => y = .non ∧ Q (.bl (decide (x = .non))) H, fun X _ => op_isN, fun X => ser_is⟩
  | .IsNot => some ⟨notND, fun _ => fun x y H Q => y = .non ∧ Q (.bl (!decide (x = .non))) H, fun X _ => op_notN, fun X => ser_isnot⟩
  | .In => some ⟨inD, fun X => rInA X.K, fun X h => op_inA (by omega), fun X => ser_in⟩
  | .NotIn => some ⟨notInD, fun X => rNotInA X.K, fun X h => op_notInA (by omega), fun X => ser_notIn⟩

/-! ### the small constructs -/
def noSet : Expr → Bool
  | .Set _ _ _ => false
  | _ => true
theorem noSet_behind {op : CmpOp} {e : Expr} (h : noSet e = true) : behindInMarks op e = false := by
  cases e <;> first | rfl | cases h
theorem noSet_folded {e : Expr} (h : noSet e = true) {env : PySem.Env} (x : Value) : foldedSetIterable e env x = pure x := by
  cases e <;> first | rfl | cases h
def noSlice : Expr → Bool
  | .Slice _ _ _ _ => false
  | _ => true
theorem noSlice_plain {e : Expr} (h : noSlice e = true) : PlainIx e := fun o i => by
  cases e <;> first | rfl | cases h
/-- a test that has no way of its own -/
def plainTest : Expr → Bool
  | .UnaryOp .Not _ _ => false
  | .BoolOp _ _ _ => false
  | .IfExp _ _ _ _ => false
  | .Compare _ _ _ _ => false
  | _ => true
theorem plainTest_of {e : Expr} (h : plainTest e = true) {env : PySem.Env} (whole : Sem Value) : isTrue e env whole = (do let v ← whole; standAt e.pos; holding [v] (truthy v)) := by
  cases e with
  | UnaryOp op x pos => cases op <;> first | rfl | cases h
  | _ => first | rfl | cases h
def mkBin {c : Cc} {a b : Expr} (op : Operator) (pos : Pos) (x : RU c a) (y : RU c b) : Option (RU c (.BinOp a op b pos)) := do
  let o ← op2 op
  if h : (x.u && y.t) = false then some ⟨false, x.t || y.t, bin o.f x.m y.m, fun X W XR ok => e_bin (o.o X) (o.s X) h (x.p X W XR ok) (y.p X W XR ok)⟩ else none
def mkBinF {c : Cc} {a b : Expr} (pos : Pos) (x : RU c a) (y : RU c b) : Option (RF c (.BinOp a .Add b pos)) :=
  if h : (x.u && y.t) = false then some ⟨x.t || y.t, bin catD x.m y.m, fun X W XR ok => e_binF op_catL serF_cat h (x.p X W XR ok) (y.p X W XR ok)⟩ else none
def mkCmp {c : Cc} {a b : Expr} (op : CmpOp) (pos : Pos) (x : RU c a) (y : RU c b) : Option (RU c (.Compare a [op] [b] pos)) := do
  let o ← cmp2 op
  if h : (x.u && y.t) = false then if hb : noSet b = true then some ⟨false, x.t || y.t, bin o.f x.m y.m, fun X W XR ok => e_cmp (o.o X ok.hu) (o.s X) h (noSet_behind hb) (x.p X W XR ok) (y.p X W XR ok)⟩ else none else none
def mkCmpT {c : Cc} {a b : Expr} (op : CmpOp) (pos : Pos) (x : RU c a) (y : RU c b) : Option (RT c (.Compare a [op] [b] pos)) := do
  let o ← cmp2 op
  if h : (x.u && y.t) = false then if hb : noSet b = true then some ⟨x.t || y.t, tstM (bin o.f x.m y.m), fun X W XR ok => p_cmp (o.o X ok.hu) (o.s X) h (noSet_behind hb) (x.p X W XR ok) (y.p X W XR ok)⟩ else none else none
end Rf
end
section
set_option Elab.async false
set_option linter.all false
set_option maxRecDepth 100000
set_option maxHeartbeats 2000000
/-! Rf, part N: calls, displays, comprehensions, from the text. -/
namespace Rf
open PySem PySem.Spec L2

/-! ### calls of built-ins -/
def asU {c : Cc} {e : Expr} (x : RF c e) : RU c e := ⟨false, x.t, x.m, fun X W XR ok => e_ff (x.p X W XR ok)⟩
def call1 {c : Cc} (f : Str) (p : Pos) {e : Expr} (x : RU c e) (pos : Pos) : Option (RU c (.Call (.Name f p) [e] [] pos)) :=
  if hs : noStar e = true then
    if h : bnB c f "len" = true then some ⟨false, x.t, un1 lenD x.m, fun X W XR ok => e_callB (bnB_of h (by decide) ok) call_len ser_len hs (x.p X W XR ok)⟩
    else if h : bnB c f "abs" = true then some ⟨false, x.t, un1 absD x.m, fun X W XR ok => e_callB (bnB_of h (by decide) ok) call_abs ser_abs hs (x.p X W XR ok)⟩
    else if h : bnB c f "int" = true then some ⟨false, x.t, un1 intD x.m, fun X W XR ok => e_callT (bnB_of h (by decide) ok) call_int1 ser_int hs (x.p X W XR ok)⟩
    else if h : bnB c f "tuple" = true then some ⟨false, x.t, un1 tupD x.m, fun X W XR ok => e_callT (bnB_of h (by decide) ok) call_tuple_of ser_tup hs (x.p X W XR ok)⟩
    else if h : bnB c f "all" = true then some ⟨false, x.t, un1 allD x.m, fun X W XR ok => e_callB (bnB_of h (by decide) ok) (cr_all ok.cl) ser_all hs (x.p X W XR ok)⟩
    else if h : bnB c f "any" = true then some ⟨false, x.t, un1 anyD x.m, fun X W XR ok => e_callB (bnB_of h (by decide) ok) (cr_any ok.cl) ser_any hs (x.p X W XR ok)⟩
    else if h : bnB c f "sum" = true then some ⟨false, x.t, un1 sumD x.m, fun X W XR ok => e_callB (bnB_of h (by decide) ok) (cr_sum ok.cl) ser_sum hs (x.p X W XR ok)⟩
    else if h : bnB c f "max" = true then some ⟨false, x.t, un1 maxD x.m, fun X W XR ok => e_callB (bnB_of h (by decide) ok) (cr_max ok.cl) ser_max hs (x.p X W XR ok)⟩
    else if h : bnB c f "min" = true then some ⟨false, x.t, un1 minD x.m, fun X W XR ok => e_callB (bnB_of h (by decide) ok) (cr_min ok.cl) ser_min hs (x.p X W XR ok)⟩
    else none
  else none
def call1F {c : Cc} (f : Str) (p : Pos) {e : Expr} (x : RU c e) (pos : Pos) : Option (RF c (.Call (.Name f p) [e] [] pos)) :=
  if hs : noStar e = true then
    if h : bnB c f "list" = true then some ⟨x.t, un1 listD x.m, fun X W XR ok => f_callT (bnB_of h (by decide) ok) call_list_of serF_list hs (x.p X W XR ok)⟩
    else if h : bnB c f "sorted" = true then some ⟨x.t, un1 srtD x.m, fun X W XR ok => f_callB (bnB_of h (by decide) ok) (cr_srtE (by have := ok.hu; omega)) serF_srt hs (x.p X W XR ok)⟩
    else none
  else none
def call2 {c : Cc} (f : Str) (p : Pos) {a b : Expr} (x : RU c a) (y : RU c b) (pos : Pos) : Option (RU c (.Call (.Name f p) [a, b] [] pos)) :=
  if h1 : noStar a = true then if h2 : noStar b = true then if hc : (x.u && y.t) = false then
    match hg : glo c f with
    | some .gcd => if hd : noDebug f = true then some ⟨false, x.t || y.t, bin gcdD x.m y.m, fun X W XR ok => e_gcd (glo_of hg ok).1 (glo_of hg ok).2 (noDebug_of hd) h1 h2 hc (x.p X W XR ok) (y.p X W XR ok)⟩ else none
    | _ =>
      if h : bnB c f "max" = true then some ⟨false, x.t || y.t, bin max2D x.m y.m, fun X W XR ok => e_max2 ok.cl (bnB_of h (by decide) ok) h1 h2 hc (x.p X W XR ok) (y.p X W XR ok)⟩
      else if h : bnB c f "min" = true then some ⟨false, x.t || y.t, bin min2D x.m y.m, fun X W XR ok => e_min2 ok.cl (bnB_of h (by decide) ok) h1 h2 hc (x.p X W XR ok) (y.p X W XR ok)⟩
      else none
  else none else none else none
/-- the types that isinstance asks for -/
def tyOf (c : Cc) (y : Str) : Option (Σ' T : String, okTy T = true ∧ ∀ X W XR, Ok c X W XR → Bn X y (.type T)) :=
  if h : bnB c y "int" = true then some ⟨"int", by decide, fun X W XR ok => bnB_of h (by decide) ok⟩
  else if h : bnB c y "bool" = true then some ⟨"bool", by decide, fun X W XR ok => bnB_of h (by decide) ok⟩
  else if h : bnB c y "tuple" = true then some ⟨"tuple", by decide, fun X W XR ok => bnB_of h (by decide) ok⟩
  else if h : bnB c y "list" = true then some ⟨"list", by decide, fun X W XR ok => bnB_of h (by decide) ok⟩
  else if h : bnB c y "str" = true then some ⟨"str", by decide, fun X W XR ok => bnB_of h (by decide) ok⟩
  else none
def callIs {c : Cc} (f : Str) (p : Pos) {e : Expr} (x : RU c e) (ty : Expr) (pos : Pos) : Option (RU c (.Call (.Name f p) [e, ty] [] pos)) :=
  if hs : noStar e = true then if h : bnB c f "isinstance" = true then
    match ty with
    | .Name y q => do
      let ⟨T, hT⟩ ← tyOf c y
      some ⟨false, x.t, isM T x.m, fun X W XR ok => e_isi (bnB_of h (by decide) ok) (hT.2 X W XR ok) hT.1 hs (x.p X W XR ok)⟩
    | .Tuple [.Name y q, .Name z r] k1 tpos => do
      let ⟨T, hT⟩ ← tyOf c y
      let ⟨U, hU⟩ ← tyOf c z
      some ⟨false, x.t, is2M T U x.m, fun X W XR ok => e_isi2 (bnB_of h (by decide) ok) (hT.2 X W XR ok) (hU.2 X W XR ok) hT.1 hU.1 hs (x.p X W XR ok)⟩
    | _ => none
  else none else none

/-! ### lists of arguments -/
theorem noStar_any {es : List Expr} (h : es.all noStar = true) {env : PySem.Env} {pos : Pos} : (backTo pos (starEach es env)).any (·.1) = false := by
  induction es with
  | nil => rfl
  | cons e es ih =>
    rw [List.all_cons, Bool.and_eq_true] at h
    rw [star1 h.1]
    show (false || (backTo pos (starEach es env)).any (·.1)) = false
    rw [ih h.2]
    rfl
structure RAr (c : Cc) (es : List Expr) where
  t : Bool
  l : List Ar
  p : ∀ X W XR, Ok c X W XR → PA X es (taR X W XR t l)
structure Den where
  u : (c : Cc) → (e : Expr) → Bool → Option (RU c e)
  f : (c : Cc) → (e : Expr) → Option (RF c e)
  t : (c : Cc) → (e : Expr) → Option (RT c e)
  i : (c : Cc) → (tg e : Expr) → Bool → Option (RI c tg e)
def denArgs (d : Den) (c : Cc) : (es : List Expr) → Option (RA c es)
  | [] => some ⟨false, nilM, fun X W XR ok => a_nil⟩
  | .Starred e p :: es => do
    let x ← d.u c e true
    let r ← denArgs d c es
    some ⟨x.t || r.t, starM x.m r.m, fun X W XR ok => a_star (x.p X W XR ok) (r.p X W XR ok) rfl⟩
  | e :: es => do
    let x ← d.u c e false
    let r ← denArgs d c es
    if hu : x.u = false then if hs : noStar e = true then some ⟨x.t || r.t, consM x.m r.m, fun X W XR ok => a_cons (by have q := x.p X W XR ok; rw [hu] at q; exact q) (r.p X W XR ok) (star1 hs)⟩ else none else none
/-- a name's slot -/
def slotOf (c : Cc) : (e : Expr) → Option (Σ' i : Nat, noStar e = true ∧ ∀ X W XR, Ok c X W XR → PE X e (tVar i))
  | .Name x pos => if h : visB c x (ixOf c x) = true then some ⟨ixOf c x, rfl, fun X W XR ok => visB_of h ok pos⟩ else none
  | _ => none
def denArs (d : Den) (c : Cc) : (ms : List Md) → (es : List Expr) → Option (RAr c es)
  | [], [] => some ⟨false, [], fun X W XR ok => ar_nil⟩
  | md :: ms, e :: es => do
    let r ← denArs d c ms es
    if hs : noStar e = true then
      let asD : Option (RAr c (e :: es)) := do
        let x ← d.u c e false
        if hu : x.u = false then some ⟨x.t || r.t, .dt x.m :: r.l, fun X W XR ok => ar_dt (by have q := x.p X W XR ok; rw [hu] at q; exact q) (r.p X W XR ok) (star1 hs)⟩ else none
      match md with
      | .dt => asD
      | _ => match slotOf c e with
        | some ⟨i, h⟩ => some ⟨r.t, .nm i :: r.l, fun X W XR ok => ar_nm (h.2 X W XR ok) (r.p X W XR ok) (star1 hs)⟩
        | none => asD
    else none
  | _, _ => none
/-- f(..) of the module -/
theorem pe_callD {X : Cx} {W : WX} {XR : XRep} {c : Cc} {f : Str} {p pos : Pos} {e : Expr} {es : List Expr} {ms : List Md} {fr : Bool} {fn : Fn} {ta : TA} (ok : Ok c X W XR) (hg : glo c f = some (.fn ms fr fn)) (hd : noDebug f = true) (hs : (e :: es).all noStar = true) (ha : PA X (e :: es) ta) :
    PE X (.Call (.Name f p) (e :: es) [] pos) (tCallSD (spF X.prog X.w X.K XR ms fr fn) [] (WE W) ta) := by
  obtain ⟨h1, a, fd, ps, k, F, hr, hm, hk, hb⟩ := glo_of hg ok
  rw [List.all_cons, Bool.and_eq_true] at hs
  exact pe_callSD F hr h1 hm hk hb .nil (fun σ => passAt ok.tk σ) ha (noDebug_of hd) (star1 hs.1) (noStar_any hs.2)
def callDef (d : Den) (c : Cc) (f : Str) (p : Pos) (e : Expr) (es : List Expr) (pos : Pos) : Option (RU c (.Call (.Name f p) (e :: es) [] pos)) :=
  match hg : glo c f with
  | some (.fn ms fr fn) => if hd : noDebug f = true then if hs : (e :: es).all noStar = true then do
      let r ← denArs d c ms (e :: es)
      if hk : callOk ms r.l = true then match fr, hg with
        | false, hg => some ⟨false, r.t || !(ioS ms r.l).isEmpty, callM fn ms r.l, fun X W XR ok => PEi (pe_callD ok hg hd hs (r.p X W XR ok)) (t_call hk fun _ _ _ z => z)⟩
        | true, hg => some ⟨false, r.t || !(ioS ms r.l).isEmpty, callM fn ms r.l, fun X W XR ok => e_ff (PEi (pe_callD ok hg hd hs (r.p X W XR ok)) (f_call hk fun _ _ _ z => z))⟩
      else none
    else none else none
  | _ => none
def callDefF (d : Den) (c : Cc) (f : Str) (p : Pos) (e : Expr) (es : List Expr) (pos : Pos) : Option (RF c (.Call (.Name f p) (e :: es) [] pos)) :=
  match hg : glo c f with
  | some (.fn ms true fn) => if hd : noDebug f = true then if hs : (e :: es).all noStar = true then do
      let r ← denArs d c ms (e :: es)
      if hk : callOk ms r.l = true then some ⟨r.t || !(ioS ms r.l).isEmpty, callM fn ms r.l, fun X W XR ok => PEi (pe_callD ok hg hd hs (r.p X W XR ok)) (f_call hk fun _ _ _ z => z)⟩
      else none
    else none else none
  | _ => none

/-! ### targets -/
theorem noStar_assign {es : List Expr} (h : es.all noStar = true) {env : PySem.Env} : (assignEach es env).length = es.length ∧ (assignEach es env).findIdx? (·.1) = none := by
  induction es with
  | nil => exact ⟨rfl, rfl⟩
  | cons e es ih =>
    rw [List.all_cons, Bool.and_eq_true] at h
    obtain ⟨h1, h2⟩ := ih h.2
    have q : assignEach (e :: es) env = (false, assign e env) :: assignEach es env := by
      have h0 := h.1
      cases e <;> first | rfl | cases h0
    rw [q]
    exact ⟨by simp [h1], by simp [List.findIdx?_cons, h2]⟩
theorem noStar_assign1 {e : Expr} {es : List Expr} (h : noStar e = true) {env : PySem.Env} : (assignEach (e :: es) env).map (·.2) = assign e env :: (assignEach es env).map (·.2) := by
  cases e <;> first | rfl | cases h
structure RPs (c : Cc) (es : List Expr) where
  q : List Pat
  hl : es.length = q.length
  hs : es.all noStar = true
  p : ∀ X W XR, Ok c X W XR → PGs X es (gPs X q)
def denPs (c : Cc) (f : (e : Expr) → Option (RP c e)) : (es : List Expr) → Option (RPs c es)
  | [] => some ⟨[], rfl, rfl, fun X W XR ok => gs_nil⟩
  | e :: es => do
    let x ← f e
    let r ← denPs c f es
    if hs : noStar e = true then some ⟨x.q :: r.q, by simp [r.hl], by rw [List.all_cons, hs, r.hs]; rfl, fun X W XR ok => gs_cons (x.p X W XR ok) (r.p X W XR ok) (noStar_assign1 hs)⟩ else none
def denP (c : Cc) : Nat → (e : Expr) → Option (RP c e)
  | 0, _ => none
  | n + 1, .Name x pos => if h : locB c x (ixOf c x) = true then some ⟨.nm (ixOf c x), fun X W XR ok => g_nm (locB_of h ok pos).1 (locB_of h ok pos).2.1⟩ else none
  | n + 1, .Tuple es k pos => do
    let r ← denPs c (denP c n) es
    some ⟨.tp r.q, fun X W XR ok => g_tp ok.cl (r.p X W XR ok) r.hl (noStar_assign r.hs).1 (noStar_assign r.hs).2⟩
  | _, _ => none

/-! ### tests of a clause -/
structure RTs (c : Cc) (ifs : List Expr) where
  t : Bool
  m : M Bool
  p : ∀ X W XR, Ok c X W XR → PTs X ifs (TTs X W XR t m)
def denTs (d : Den) (c : Cc) : (ifs : List Expr) → Option (RTs c ifs)
  | [] => some ⟨false, yesM, fun X W XR ok => ⟨fun pins s σ H Q I ⟨F, ρ, R, z⟩ => pts_nil.run pins s σ H Q I (z H R .refl)⟩⟩
  | [e] => do
    let x ← d.t c e
    some ⟨x.t, x.m, fun X W XR ok => pts_one (x.p X W XR ok)⟩
  | _ => none

/-! ### list comprehensions -/
def freeOf (scope : Scope) : List Str := scope.names.filterMap fun y => match y.2 with
  | .free => some y.1
  | _ => none
def Cc.blk (c : Cc) (scope : Scope) : Cc := { c with sc := relS scope c.sc, W := freeOf scope }
def isFun (k : ScopeKind) : Bool := match k with
  | .function => true
  | _ => false
def ownOf (N : List Str) (scope : Scope) : List (Str × Nat) := scope.names.filterMap fun y => match y.2 with
  | .local => if N.contains y.1 = true then some (y.1, N.findIdx (· == y.1)) else none
  | .cell => if N.contains y.1 = true then some (y.1, N.findIdx (· == y.1)) else none
  | _ => none
def fnB (c : Cc) (scope : Scope) : Bool := (relS scope c.sc).names.all fun y => match y.2 with
  | .cell => scope.names.lookup y.1 == some .cell || (freeOf scope).contains y.1
  | _ => true
def blkB (c : Cc) (scope : Scope) : Bool := blkC c.N c.sc scope (ownOf c.N scope) && fnB c scope && isFun (relS scope c.sc).kind
theorem look_mem {α : Type} : ∀ {l : List (Str × α)} {x : Str} {k : α}, l.lookup x = some k → (x, k) ∈ l
  | [], _, _, h => by cases h
  | (y, j) :: l, x, k, h => by
    rw [List.lookup_cons] at h
    split at h
    · rename_i e
      cases h
      rw [show x = y from eq_of_beq e]
      exact List.mem_cons_self
    · exact List.mem_cons_of_mem _ (look_mem h)
theorem Ok.blk {c : Cc} {X : Cx} {W : WX} {XR : XRep} {scope : Scope} (ok : Ok c X W XR) (h : blkB c scope = true) (s : Shared) (H : Hp) (C : Addr) (cl : List (Str × Addr)) (fp : List Addr) : Ok (c.blk scope) (X.blk s H scope (compEnvC scope cl C X.env) fp) W0 XR := by
  unfold blkB at h
  simp only [Bool.and_eq_true] at h
  have hsc : (compEnvC scope cl C X.env).scope = relS scope c.sc := by rw [← ok.sc]; rfl
  refine ⟨ok.N, ok.nd, hsc, ?_, ok.cl, fun x hx hw => ?_, fun u s' ⟨a, B, sI, pins, σ, H, cls, d, e, I, nb, up, sky, na, os, ag, w⟩ => w.elim, ok.hu, fun x g hg => ?_, ok.bl⟩
  · show (compEnvC scope cl C X.env).scope.kind = .function
    rw [hsc]
    have q := h.2
    unfold isFun at q
    split at q
    · assumption
    · cases q
  · rcases hx with hx | hx
    · exact .inr hx
    · have q := List.all_eq_true.mp h.1.2 _ (look_mem hx)
      simp only [Bool.or_eq_true] at q
      rcases q with q | q
      · exact .inl q
      · rw [show (freeOf scope).contains x = false from hw] at q
        cases q
  · have q := ok.gl x g hg
    cases g with
    | con d => exact q
    | fn ms fr f => exact q
    | gcd => exact q
    | cls n f b => exact ⟨⟨q.mk_.ex⟩, q.ct⟩
theorem Ok.tr {c : Cc} {X : Cx} {W W' : WX} {XR : XRep} (ok : Ok c X W XR) {pn : List (Addr × Obj)} {xe : Value → Shared → Prop} (tk : Takes (X.tr pn xe) W') : Ok c (X.tr pn xe) W' XR := by
  refine ⟨ok.N, ok.nd, ok.sc, ok.kd, ok.cl, ok.fn, tk, ok.hu, fun x g hg => ?_, ok.bl⟩
  have q := ok.gl x g hg
  cases g with
  | con d => exact q
  | fn ms fr f => exact q
  | gcd => exact q
  | cls n f b => exact ⟨⟨q.mk_.ex⟩, q.ct⟩
/-- a clause's body -/
structure RG (c' : Cc) (elt : Expr) (gens : List Comprehension) (scope : Scope) (pos : Pos) (dp : Nat) where
  us : List Nat
  t : Bool
  m : M (List D)
  bd : Cx → Addr → Bdy
  mono : ∀ Y Dl (P P' : Shared → Prop) s, (∀ s, P s → P' s) → bd Y Dl P s → bd Y Dl P' s
  pb : ∀ Y XR, Ok c' Y W0 XR → Y.xe = (fun _ _ => False) → ∀ Dl, PB Y us (bd Y Dl) (tbR Y Dl t m)
  by_ : ∀ (Y : Cx) Dl tg iter ifs, gens[dp]? = some ⟨tg, iter, ifs, 0⟩ → LoopBy Y.prog Y.w Y.A (.ListComp elt gens scope pos) dp (.ref Dl) Y.env tg ifs (bd Y Dl)
def subB (a b : List Nat) : Bool := a.all fun i => b.contains i
theorem subB_of {a b : List Nat} (h : subB a b = true) : ∀ i ∈ a, i ∈ b := fun i hi => List.contains_iff_mem.mp (List.all_eq_true.mp h i hi)
def guardO {α : Type} (b : Bool) (k : b = true → Option α) : Option α := if h : b = true then k h else none
def denG (d : Den) (c' : Cc) (elt : Expr) (gens : List Comprehension) (scope : Scope) (pos : Pos) : Nat → (dp : Nat) → Option (RG c' elt gens scope pos dp)
  | 0, _ => none
  | n + 1, dp => match h : gens[dp + 1]? with
    | none => do
      let x ← d.u c' elt false
      if hu : x.u = false then
        some ⟨[], x.t, elM x.m, fun Y Dl => bdLast Y.prog Y.w Y.A elt (.ref Dl) Y.env, fun Y Dl => bdLast_mono,
          fun Y XR ok hx Dl => PBi (pb_last hx (by have q := x.p Y W0 XR ok; rw [hu] at q; exact q)) (b_el fun _ _ _ z => z),
          fun Y Dl tg iter ifs hg => by_last hg h⟩
      else none
    | some ⟨tg', iter', ifs', 0⟩ => do
      let r ← denG d c' elt gens scope pos n (dp + 1)
      let q ← denP c' 8 tg'
      let s ← d.i c' tg' iter' false
      let tt ← denTs d c' ifs'
      guardO (!s.u) fun hu => guardO (noSet iter') fun hn =>
        some ⟨patVs q.q ++ r.us, s.t || (tt.t || r.t), clM s.m (patVs q.q ++ r.us) (stepM q.q tt.m r.m), fun Y Dl => bdMid Y.prog Y.w Y.A (.ListComp elt gens scope pos) (dp + 1) iter' (.ref Dl) Y.env, fun Y Dl => bdMid_mono,
          fun Y XR ok hx Dl => PBi (pb_mid ok.cl hx h (s.p Y W0 XR ok) (r.by_ Y Dl tg' iter' ifs' h) (r.mono Y Dl) (q.p Y W0 XR ok) (tt.p Y W0 XR ok) (r.pb Y XR ok hx Dl) (fun i hi => List.mem_append_right _ hi))
            (b_cl (XR := XR) (by rw [show s.u = false by simpa using hu]; exact fun _ _ _ z => z) (fun _ _ _ _ z => z) (fun _ _ _ z => z) (fun _ _ _ z => z) (fun i hi => List.mem_append_left _ hi) (fun z => by rw [z]; rfl) (fun z => by rw [z]; simp) (fun z => by rw [z]; simp)),
          fun Y Dl tg iter ifs hg => by_mid hg h fun x => noSet_folded hn x⟩
    | _ => none
structure RC (c : Cc) (elt : Expr) (gens : List Comprehension) (scope : Scope) (pos : Pos) where
  t : Bool
  m : M D
  p : ∀ X W XR, Ok c X W XR → ∃ te : TE, PE X (.ListComp elt gens scope pos) te ∧
    (∀ (i : Nat) (y : Str) (py spos : Pos), X.N[i]? = some y → X.env.scope.names.lookup y = some .local → swapsWith (.ListComp elt gens scope pos) (some (.Name y py)) spos.line X.env = pure true →
      PS X (.Assign [.Name y py] (.ListComp elt gens scope pos) spos) (tAsg te (gName i))) ∧ ∀ σ H Q, TF X W XR t m σ H Q → te σ H Q
def mkCompC (d : Den) (c : Cc) (elt : Expr) (gens : List Comprehension) (scope : Scope) (pos : Pos) : Option (RC c elt gens scope pos) := match gens with
  | ⟨tg, iter, ifs, 0⟩ :: rest => guardO (blkB c scope) fun hb => do
    let r ← denG d (c.blk scope) elt (⟨tg, iter, ifs, 0⟩ :: rest) scope pos 9 0
    let q ← denP (c.blk scope) 8 tg
    let tt ← denTs d (c.blk scope) ifs
    let s ← d.i c tg iter (!(tt.t || r.t))
    guardO (!(s.u && (tt.t || r.t))) fun hu => guardO (noSet iter) fun hn => guardO (subB (patVs q.q) ((ownOf c.N scope).map (·.2))) fun h1 => guardO (subB r.us ((ownOf c.N scope).map (·.2))) fun h2 =>
      some ⟨s.t || (tt.t || r.t), compM s.m ((ownOf c.N scope).map (·.2)) (stepM q.q tt.m r.m), fun X W XR ok => by
        have hbk : BlkOk X.N X.env.scope scope (ownOf c.N scope) := by
          rw [ok.N, ok.sc]
          have hb' := hb
          unfold blkB at hb'
          simp only [Bool.and_eq_true] at hb'
          exact blkOk_by hb'.1.1
        refine ⟨_, pe_lcn (g := gP X q.q) (tt := TTs X W0 XR tt.t tt.m) (tb := fun Dl => tbR X Dl r.t r.m) (vs := r.us) (bd := r.bd) ok.cl ok.nd (s.p X W XR ok) hbk (fun x => noSet_folded hn x) (fun s H C cl fp => q.p _ W0 XR (ok.blk hb s H C cl fp)) (fun s H C cl fp => tt.p _ W0 XR (ok.blk hb s H C cl fp))
          (fun s H C cl fp Dl => r.pb _ XR (ok.blk hb s H C cl fp) rfl Dl) (fun s H C cl fp Dl => r.by_ _ Dl tg iter ifs rfl) r.mono (subB_of h2), fun i y py spos hy hyl hsw => ?_, ?_⟩
        · exact ps_lcn (g := gP X q.q) (tt := TTs X W0 XR tt.t tt.m) (tb := fun Dl => tbR X Dl r.t r.m) (vs := r.us) (bd := r.bd) ok.cl ok.nd hy hyl hsw (s.p X W XR ok) hbk (fun x => noSet_folded hn x) (fun s H C cl fp => q.p _ W0 XR (ok.blk hb s H C cl fp)) (fun s H C cl fp => tt.p _ W0 XR (ok.blk hb s H C cl fp))
            (fun s H C cl fp Dl => r.pb _ XR (ok.blk hb s H C cl fp) rfl Dl) (fun s H C cl fp Dl => r.by_ _ Dl tg iter ifs rfl) r.mono (subB_of h2)
        · exact c_lcn (fun _ _ _ z => z) (fun _ _ _ _ z => z) (fun _ _ _ z => z) (fun _ _ _ _ z => z) (subB_of h1) (fun z => by rw [z]; rfl) (fun z => by rw [z]; simp) (fun z => by
            rw [z] at hu
            cases e : (tt.t || r.t) with
            | false => rfl
            | true => rw [e] at hu; cases hu)⟩
  | _ => none
def mkComp (d : Den) (c : Cc) (elt : Expr) (gens : List Comprehension) (scope : Scope) (pos : Pos) : Option (RF c (.ListComp elt gens scope pos)) := (mkCompC d c elt gens scope pos).map fun r => ⟨r.t, r.m, fun X W XR ok => by
  obtain ⟨te, h1, _, h3⟩ := r.p X W XR ok
  exact PEi h1 h3⟩
end Rf
end
section
set_option Elab.async false
set_option linter.all false
set_option maxRecDepth 100000
set_option maxHeartbeats 2000000
/-! Rf, part R: sets whose members are tuples, nested. -/
namespace Rf
open PySem PySem.Spec PyProof.Rows L2
section
variable {P : Program} {w : World}
/-! ### what the table asks of a member -/
mutual
def noTx : NestedKey → Bool
  | .text _ => false
  | .tup ks => noTxs ks
  | .none => true
  | .num _ => true
def noTxs : List NestedKey → Bool
  | [] => true
  | k :: ks => noTx k && noTxs ks
end
/-- a question about v is answered by b at once -/
def Says (P : Program) (w : World) (q : Sem Bool) (b : Bool) (s : Shared) : Prop := ∀ (A : Around) (E : Value → Shared → Prop) (Q : Bool → Shared → Prop), Q b s → wpAny (model P w) A q Q E s
theorem Says.now {q : Sem Bool} {b : Bool} {s : Shared} (e : q = pure b) : Says P w q b s := fun A E Q h => by rw [e]; exact wpAny_pure h
theorem cls_tup {n : Nat} {s : Shared} {a : Addr} {o : Obj} {vs : Array Value} {m : Nat} (hg : s.heap.get? a = some o) (hc : o.cls = .type "tuple") (hd : o.data = .seq vs m) (hv : ∀ v ∈ vs.toList, Says P w (ofAClassStatement n v) false s) :
    Says P w (ofAClassStatement (n + 1) (.ref a)) false s := fun A E Q q => by
  unfold ofAClassStatement
  refine wpAny_bind (wpAny_typeOf (show s.TypeIs (.ref a) "tuple" from ⟨o, hg, hc⟩) ?_)
  dsimp only
  simp only [show (("tuple" : String) == "tuple") = true by decide, if_true, Bool.not_true, Bool.false_eq_true, if_false]
  try refine wpAny_bind (wpAny_pure ?_)
  try simp only [Bool.not_true, Bool.false_eq_true, if_false]
  show wpAny _ _ (seqItems? (.ref a) >>= _) _ _ s
  refine wpAny_bind (wpAny_seqItems hg hd ?_)
  dsimp only
  refine wpAny_bind ?_
  show wpAny _ _ (forIn vs _ _) _ _ s
  rw [← Array.forIn_toList]
  refine wpAny_forIn_list _ (fun l r z => r.1 = none ∧ z = s ∧ ∀ v ∈ l, Says P w (ofAClassStatement n v) false s) _ ?_ ?_ _ _ ⟨rfl, rfl, hv⟩
  · intro v l r z ⟨_, e, al⟩
    subst e
    refine wpAny_bind (al v List.mem_cons_self _ _ _ ?_)
    simp only [Bool.false_eq_true, if_false]
    exact wpAny_pure ⟨rfl, rfl, fun u m => al u (List.mem_cons_of_mem _ m)⟩
  · intro ⟨r1, r2⟩ z ⟨e1, e2, _⟩
    simp only at e1
    subst e1 e2
    exact wpAny_pure q
theorem byv_tup {n : Nat} {s : Shared} {a : Addr} {o : Obj} {vs : Array Value} {m : Nat} (hg : s.heap.get? a = some o) (hc : o.cls = .type "tuple") (hd : o.data = .seq vs m) (hv : ∀ v ∈ vs.toList, Says P w (hashByValue n v) true s) :
    Says P w (hashByValue (n + 1) (.ref a)) true s := fun A E Q q => by
  unfold hashByValue
  refine wpAny_bind (wpAny_specialOf (show s.TypeIs (.ref a) "tuple" from ⟨o, hg, hc⟩) F.slot_tuple_hash.lookup ?_)
  show wpAny _ _ (seqItems? (.ref a) >>= _) _ _ s
  refine wpAny_bind (wpAny_seqItems hg hd ?_)
  refine wpAny_bind ?_
  show wpAny _ _ (forIn vs _ _) _ _ s
  rw [← Array.forIn_toList]
  refine wpAny_forIn_list _ (fun l r z => r.1 = none ∧ z = s ∧ ∀ v ∈ l, Says P w (hashByValue n v) true s) _ ?_ ?_ _ _ ⟨rfl, rfl, hv⟩
  · intro v l r z ⟨_, e, al⟩
    subst e
    refine wpAny_bind (al v List.mem_cons_self _ _ _ ?_)
    simp only [Bool.not_true, Bool.false_eq_true, if_false]
    exact wpAny_pure ⟨rfl, rfl, fun u m => al u (List.mem_cons_of_mem _ m)⟩
  · intro ⟨r1, r2⟩ z ⟨e1, e2, _⟩
    simp only at e1
    subst e1 e2
    exact wpAny_pure q
mutual
theorem cls_key : ∀ (k : NestedKey) (v : Value) (n : Nat) (s : Shared), NestedIs s.heap k v → k.depth ≤ n → Says P w (ofAClassStatement n v) false s
  | .none, _, n, s, x, _ => by cases x; cases n <;> exact Says.now rfl
  | .num i, _, n, s, x, _ => by cases x <;> cases n <;> exact Says.now rfl
  | .text y, _, n, s, x, _ => by cases x; cases n <;> exact Says.now rfl
  | .tup ks, _, 0, s, x, hn => by unfold NestedKey.depth at hn; omega
  | .tup ks, _, n + 1, s, x, hn => by
    cases x with
    | tup hg hc hd hk =>
      unfold NestedKey.depth at hn
      exact cls_tup hg hc hd (cls_keys ks _ n s hk (by omega))
theorem cls_keys : ∀ (ks : List NestedKey) (vs : List Value) (n : Nat) (s : Shared), NestedAll s.heap ks vs → NestedKey.depthAll ks ≤ n → ∀ v ∈ vs, Says P w (ofAClassStatement n v) false s
  | [], _, n, s, x, _, v, m => by cases x; cases m
  | k :: ks, _, n, s, x, hn, v, m => by
    cases x with
    | cons a b =>
      unfold NestedKey.depthAll at hn
      rcases List.mem_cons.mp m with e | m
      · rw [e]; exact cls_key k _ n s a (by omega)
      · exact cls_keys ks _ n s b (by omega) v m
end
mutual
theorem byv_key : ∀ (k : NestedKey) (v : Value) (n : Nat) (s : Shared), NestedIs s.heap k v → k.depth ≤ n → noTx k = true → Says P w (hashByValue n v) true s
  | .none, _, n, s, x, _, _ => by cases x; cases n <;> exact Says.now rfl
  | .num i, _, n, s, x, _, _ => by cases x <;> cases n <;> exact Says.now rfl
  | .text y, _, n, s, x, _, h => by cases h
  | .tup ks, _, 0, s, x, hn, _ => by unfold NestedKey.depth at hn; omega
  | .tup ks, _, n + 1, s, x, hn, h => by
    cases x with
    | tup hg hc hd hk =>
      unfold NestedKey.depth at hn
      exact byv_tup hg hc hd (byv_keys ks _ n s hk (by omega) h)
theorem byv_keys : ∀ (ks : List NestedKey) (vs : List Value) (n : Nat) (s : Shared), NestedAll s.heap ks vs → NestedKey.depthAll ks ≤ n → noTxs ks = true → ∀ v ∈ vs, Says P w (hashByValue n v) true s
  | [], _, n, s, x, _, _, v, m => by cases x; cases m
  | k :: ks, _, n, s, x, hn, h, v, m => by
    cases x with
    | cons a b =>
      unfold NestedKey.depthAll at hn
      unfold noTxs at h
      rw [Bool.and_eq_true] at h
      rcases List.mem_cons.mp m with e | m
      · rw [e]; exact byv_key k _ n s a (by omega) h.1
      · exact byv_keys ks _ n s b (by omega) h.2 v m
end
/-- the tuple at a is the key k, of no text -/
def Mb (h : Heap) (k : NestedKey) (a : Addr) : Prop := NestedIs h k (.ref a) ∧ k.depth ≤ 8 ∧ noTx k = true
theorem Mb.kd {h : Heap} {k : NestedKey} {a : Addr} (x : Mb h k a) : (nestedKind P w).is h k a := ⟨x.1, x.2.1⟩
theorem Mb.keep {h h' : Heap} {k : NestedKey} {a : Addr} (x : Mb h k a) (e : ∀ b o, h.get? b = some o → h'.get? b = some o) : Mb h' k a := ⟨NestedIs.at (fun b o _ _ q _ => e b o q) k _ x.1, x.2⟩
/-- a change at a set leaves it -/
theorem Mb.off {h h' : Heap} {k : NestedKey} {a b : Addr} {o : Obj} {es : Array (Int × Value)} {ep : Nat} {t : SetTable} (x : Mb h k b) (ho : h.get? a = some o) (hd : o.data = .set es ep t) (e : Heap.SameBut a h h') : Mb h' k b :=
  ⟨NestedIs.at (fun c u _ _ q r => (e.2 c fun z => by
    subst z
    rw [ho] at q
    cases q
    rw [hd] at r
    cases r).trans q) k _ x.1, x.2⟩
/-- a search among them shows nothing -/
theorem seen_no {s : Shared} {k : NestedKey} {b : Addr} (x : Mb s.heap k b) {ys : List Value} (hy : ∀ y ∈ ys, ∃ k' c, y = Value.ref c ∧ Mb s.heap k' c) : Says P w (searchCouldBeSeen (.ref b) ys) false s := fun A E Q q => by
  unfold searchCouldBeSeen
  refine wpAny_bind ?_
  refine wpAny_forIn_list _ (fun l r z => r.1 = none ∧ z = s ∧ ∀ y ∈ l, ∃ k' c, y = Value.ref c ∧ Mb s.heap k' c) _ ?_ ?_ _ _ ⟨rfl, rfl, hy⟩
  · intro v l r z ⟨_, e, al⟩
    subst e
    obtain ⟨k', c, rfl, hc⟩ := al v List.mem_cons_self
    have tl : ∀ y ∈ l, ∃ k' c, y = Value.ref c ∧ Mb z.heap k' c := fun y m => al y (List.mem_cons_of_mem _ m)
    dsimp only
    by_cases hv : (b == c || (carriedByValue (.ref b) && carriedByValue (.ref c))) = true
    · exact wp_if_pos hv (wpAny_pure ⟨rfl, rfl, tl⟩)
    · refine wp_if_neg hv ?_
      refine wpAny_bind ((nestedKind P w).quiet x.kd ?_)
      simp only [Bool.not_true, Bool.false_eq_true, if_false]
      refine wpAny_bind ((nestedKind P w).quiet hc.kd ?_)
      simp only [Bool.not_true, Bool.false_eq_true, if_false]
      refine wpAny_bind (cls_key k _ 8 z x.1 x.2.1 _ _ _ ?_)
      simp only [Bool.false_eq_true, if_false]
      refine wpAny_bind (cls_key k' _ 8 z hc.1 hc.2.1 _ _ _ ?_)
      simp only [Bool.false_eq_true, if_false]
      exact wpAny_pure ⟨rfl, rfl, tl⟩
  · intro ⟨r1, r2⟩ z ⟨e1, e2, _⟩
    simp only at e1
    subst e1 e2
    exact wpAny_pure q
end
end Rf
end
section
set_option Elab.async false
set_option linter.all false
set_option maxRecDepth 100000
set_option maxHeartbeats 2000000
/-! Rf, part S: a set of tuples: seeking, adding. -/
namespace Rf
open PySem PySem.Spec PyProof.Rows L2
section
variable {P : Program} {w : World} {A : Around} {E : Value → Shared → Prop} {s : Shared}
def rowN (w : World) (p : Addr × NestedKey) : Int × Value := (p.2.hash w, Value.ref p.1)
/-- the set at a holds the members L -/
structure SetN (w : World) (h : Heap) (a : Addr) (L : List (Addr × NestedKey)) (es : Array (Int × Value)) (ep : Nat) (t : SetTable) : Prop where
  ob : ∃ o, h.get? a = some o ∧ o.ExactSet ∧ o.data = .set es ep t
  rs : es.toList = L.map (rowN w)
  tb : TabOk t (L.map fun p => p.2.hash w)
  nd : (L.map (·.2)).Nodup
  pl : t.plain = true
  ld : w.params.followText "set-order" = true ∨ t.led = true
  rm : L.length * 5 < t.mask * 3
  fw : L.length < 64
theorem rows_len {es : Array (Int × Value)} {L : List (Addr × NestedKey)} (h : es.toList = L.map (rowN w)) : es.size = L.length := by
  rw [← Array.length_toList, h, List.length_map]
theorem rows_at {es : Array (Int × Value)} {L : List (Addr × NestedKey)} (h : es.toList = L.map (rowN w)) {i : Nat} {p : Addr × NestedKey} (e : L[i]? = some p) : es[i]? = some (rowN w p) := by
  rw [← Array.getElem?_toList, h, List.getElem?_map, e]
  rfl
variable {a : Addr} {L : List (Addr × NestedKey)} {es : Array (Int × Value)} {ep : Nat} {t : SetTable}
theorem fits_of (h : es.size = L.length) (h1 : t.place.size = L.length) (h2 : t.dummies = #[]) (h3 : L.length ≤ t.mask) : t.fits es.size = true := by
  unfold SetTable.fits SetTable.fill
  rw [h2, Bool.and_eq_true, beq_iff_eq, decide_eq_true_eq, h, h1]
  exact ⟨rfl, h3⟩
theorem SetN.sz (R : SetN w s.heap a L es ep t) : t.place.size = L.length := by rw [R.tb.sz, List.length_map]
theorem SetN.fits (R : SetN w s.heap a L es ep t) : t.fits es.size = true := fits_of (rows_len R.rs) R.sz R.tb.dm (by have := R.rm; omega)
/-- where the search for the hash g stands at its c-th step -/
abbrev stand (t : SetTable) (g : Int) (c : Nat) : SetTable.Probe := nth t.mask (runAt t.mask (SetTable.bits g % (t.mask + 1)) (SetTable.bits g)) c
theorem stand_on (t : SetTable) (g : Int) (c q : Nat) : nth t.mask (stand t g c) q = stand t g (c + q) := (nth_add t.mask c _ q).symm
theorem stand_clear (t : SetTable) (g : Int) : ∀ c, (stand t g c).dummy = none
  | 0 => rfl
  | c + 1 => by
    have ih := stand_clear t g c
    show (nth t.mask _ (c + 1)).dummy = none
    rw [nth_succ]
    unfold adv
    split <;> exact ih
/-- the search, from its c-th step on -/
theorem look_on (R : SetN w s.heap a L es ep t) (M : ∀ p ∈ L, Mb s.heap p.2 p.1) {x : Addr} {k : NestedKey} (hx : Mb s.heap k x) (hu : A.units + 8 < cLine) {g : Int} (hg : k.hash w = g) {N : Nat} (n1 : N < 10 * SetTable.turns t.mask) (n2 : way t.mask g N ∉ t.place.toList)
    (n3 : ∀ c, c < N → way t.mask g c ∈ t.place.toList) {Q : SetFound → Shared → Prop} (yes : k ∈ L.map (·.2) → Q (.there none) s) (no : k ∉ L.map (·.2) → Q (.free (way t.mask g N) false) s) :
    ∀ (f c : Nat) (st : Option SetTable.Probe), st.getD (t.probeStart g) = stand t g c → c ≤ N → N - c < f → (∀ (i : Nat) (p : Addr × NestedKey), L[i]? = some p → p.2 = k → ∃ d, c ≤ d ∧ d < N ∧ t.place.toList[i]? = some (way t.mask g d)) →
      wpAny (model P w) A (setSearchFrom a (.ref x) g true f st) Q E s := by
  intro f
  induction f with
  | zero => intro c st _ _ h; exact absurd h (Nat.not_lt_zero _)
  | succ f ih =>
    intro c st hst hc hf hre
    obtain ⟨o, ho, hex, hd⟩ := R.ob
    rw [setSearchFrom_succ]
    refine wpAny_bind (wpAny_setState_of ho hd R.fits ?_)
    dsimp only
    refine wp_if_neg (by unfold SetTable.gaveWay; rw [mask_odd R.tb.mok]; decide) ?_
    try refine wpAny_bind (wpAny_pure ?_)
    have hw : ∀ q, (nth t.mask (stand t g c) q).j = way t.mask g (c + q) := fun q => congrArg SetTable.Probe.j (stand_on t g c q)
    have hN : c + (N - c) = N := by omega
    have at_ : ∀ (i : Nat) (p : Addr × NestedKey), L[i]? = some p → (es[i]?.map (·.1)).getD 0 = p.2.hash w := fun i p e => by rw [rows_at R.rs e]; rfl
    rcases go_spec t R.tb.ris R.tb.dm (fun i => (es[i]?.map (·.1)).getD 0) g (10 * SetTable.turns t.mask) (N - c) (stand t g c) (stand_clear t g c) (by omega) (fun q hq => by rw [hw]; exact n3 _ (by omega)) (by rw [hw, hN]; exact n2) with
      ⟨q, i, hq, hi, hh, hno, hpr⟩ | ⟨hno, hpr⟩
    · have e1 : t.probe (fun i => (es[i]?.map (·.1)).getD 0) g (st.getD (t.probeStart g)) = some (.candidate (way t.mask g (c + q)) i (stand t g (c + (q + 1)))) := by
        rw [hst, ← stand_on, ← hw]
        exact hpr
      rw [e1]
      dsimp only
      rw [hw] at hi
      have hil : i < L.length := by
        have z := (List.getElem?_eq_some_iff.mp hi).1
        rwa [Array.length_toList, R.sz] at z
      obtain ⟨p, hp⟩ : ∃ p, L[i]? = some p := ⟨_, List.getElem?_eq_getElem hil⟩
      have mp : p ∈ L := List.mem_of_getElem? hp
      have cand : wpAny (model P w) A (searchRest a (.ref x) g true f es t (way t.mask g (c + q)) i (stand t g (c + (q + 1)))) Q E s := by
        unfold searchRest
        rw [rows_at R.rs hp]
        dsimp only [rowN]
        refine wpAny_bind (wpAny_holding ((nestedKind P w).eqBool hu (M p mp).kd hx.kd ?_))
        refine wpAny_bind (wpAny_setState_of ho hd R.fits ?_)
        dsimp only
        by_cases hk : p.2 = k
        · exact wp_if_pos (by simp [hk]) (wpAny_pure (yes (List.mem_map.mpr ⟨p, mp, hk⟩)))
        · refine wp_if_neg (by simp [hk]) ?_
          try refine wpAny_bind (wpAny_pure ?_)
          rw [sameMem]
          dsimp only
          have live : t.slot (way t.mask g (c + q)) = .live i := slot_live R.tb.ris hi
          simp only [if_true, live, rows_at R.rs hp, rowN]
          refine wpAny_bind (wpAny_isSame_ref_self (wpAny_bind (wpAny_pure ?_)))
          simp only [if_true]
          refine wp_if_neg (by simp [hk]) ?_
          refine ih (c + (q + 1)) _ rfl (by omega) (by omega) fun i0 p0 h0 h1 => ?_
          obtain ⟨d, d1, d2, d3⟩ := hre i0 p0 h0 h1
          refine ⟨d, ?_, d2, d3⟩
          rcases Nat.lt_trichotomy d (c + q) with z | z | z
          · refine absurd ((at_ i0 p0 h0).trans (by rw [h1]; exact hg)) (hno (d - c) i0 (by omega) ?_)
            rw [hw, show c + (d - c) = d by omega]
            exact d3
          · rw [z] at d3
            have z2 := live.symm.trans (slot_live R.tb.ris d3)
            injection z2 with z2
            rw [← z2, hp] at h0
            cases h0
            exact absurd h1 hk
          · omega
      by_cases hl : t.led = true
      · refine wp_if_neg (by simp [hl]) ?_
        try refine wpAny_bind (wpAny_pure ?_)
        exact cand
      · refine wp_if_pos (by simp [hl]) ?_
        refine wpAny_bind (seen_no hx (fun y hy => ?_) _ _ _ ?_)
        · obtain ⟨e, he, rfl⟩ := List.mem_map.mp hy
          have he2 : e ∈ es.toList := by
            have z : e ∈ es ∧ e.1 = g := by simpa using he
            simpa using z.1
          rw [R.rs] at he2
          obtain ⟨p2, m2, rfl⟩ := List.mem_map.mp he2
          exact ⟨p2.2, p2.1, rfl, M p2 m2⟩
        · refine wp_if_neg (by decide) ?_
          try refine wpAny_bind (wpAny_pure ?_)
          exact cand
    · have e1 : t.probe (fun i => (es[i]?.map (·.1)).getD 0) g (st.getD (t.probeStart g)) = some (.empty (way t.mask g N) none) := by
        rw [hst, show way t.mask g N = (nth t.mask (stand t g c) (N - c)).j by rw [hw, hN]]
        exact hpr
      rw [e1]
      dsimp only
      refine wpAny_pure (no fun hm => ?_)
      obtain ⟨p0, m0, h1⟩ := List.mem_map.mp hm
      obtain ⟨i0, h0⟩ := List.getElem?_of_mem m0
      obtain ⟨d, d1, d2, d3⟩ := hre i0 p0 h0 h1
      refine hno (d - c) i0 (by omega) ?_ ((at_ i0 p0 h0).trans (by rw [h1]; exact hg))
      rw [hw, show c + (d - c) = d by omega]
      exact d3
/-- the search that adding begins with -/
theorem look_add (R : SetN w s.heap a L es ep t) (M : ∀ p ∈ L, Mb s.heap p.2 p.1) {x : Addr} {k : NestedKey} (hx : Mb s.heap k x) (hu : A.units + 8 < cLine) {Q : SetFound → Shared → Prop} (yes : k ∈ L.map (·.2) → Q (.there none) s)
    (no : ∀ N, k ∉ L.map (·.2) → way t.mask (k.hash w) N ∉ t.place.toList → (∀ c, c < N → way t.mask (k.hash w) c ∈ t.place.toList) → Q (.free (way t.mask (k.hash w) N) false) s) :
    wpAny (model P w) A (setSearch a (.ref x) (k.hash w) true) Q E s := by
  have rm := R.rm
  obtain ⟨N, n1, n2, n3⟩ := R.tb.first (by rw [List.length_map]; omega) (k.hash w)
  have tn : 10 * SetTable.turns t.mask < 100000 := by
    unfold SetTable.turns
    rcases R.tb.mok with e | e | e <;> rw [e] <;> decide
  unfold setSearch
  refine look_on R M hx hu rfl n1 n2 n3 yes (fun z => no N z n2 n3) 100000 0 none rfl (Nat.zero_le _) (by omega) fun i p hp hk => ?_
  have hj : ∃ j, t.place.toList[i]? = some j := ⟨_, List.getElem?_eq_getElem (by rw [Array.length_toList, R.sz]; exact (List.getElem?_eq_some_iff.mp hp).1)⟩
  obtain ⟨j, hj⟩ := hj
  obtain ⟨d, d1, d2⟩ := R.tb.before n2 (show (L.map fun p => p.2.hash w)[i]? = some (k.hash w) by rw [List.getElem?_map, hp, ← hk]; rfl) hj
  exact ⟨d, Nat.zero_le _, d1, by rw [hj, d2]⟩
end
end Rf
end
section
set_option Elab.async false
set_option linter.all false
set_option maxRecDepth 100000
set_option maxHeartbeats 2000000
/-! Rf, part U: a set of tuples: adding, growing. -/
namespace Rf
open PySem PySem.Spec PyProof.Rows L2
theorem range_pick {α : Type} (L : List α) : ∀ n, (List.range n).filterMap (fun i => L[i]?) = L.take n
  | 0 => rfl
  | n + 1 => by
    rw [List.range_succ, List.filterMap_append, range_pick L n, List.take_succ]
    cases h : L[n]? <;> simp [h]
section
variable {P : Program} {w : World} {A : Around} {E : Value → Shared → Prop} {s : Shared}
theorem order_n {L : List (Addr × NestedKey)} {es : Array (Int × Value)} (h : es.toList = L.map (rowN w)) {order : Array Nat} (hp : order.toList.Perm (List.range L.length)) :
    ∃ L2 : List (Addr × NestedKey), (order.filterMap (es[·]?)).toList = L2.map (rowN w) ∧ L2.Perm L ∧ (L2.map fun p => p.2.hash w) = order.toList.map fun i => (es.map (·.1)).getD i 0 := by
  have e : ∀ i : Nat, es[i]? = (L[i]?).map (rowN w) := fun i => by rw [← Array.getElem?_toList, h, List.getElem?_map]
  refine ⟨order.toList.filterMap fun i => L[i]?, ?_, ?_, ?_⟩
  · rw [Array.toList_filterMap, List.map_filterMap]
    exact congrArg (fun f => List.filterMap f order.toList) (funext e)
  · have z := hp.filterMap fun i => L[i]?
    rwa [range_pick, List.take_length] at z
  · have go : ∀ l : List Nat, (∀ i ∈ l, i < L.length) → ((l.filterMap fun i => L[i]?).map fun p => p.2.hash w) = l.map fun i => (es.map (·.1)).getD i 0 := fun l => by
      induction l with
      | nil => intro _; rfl
      | cons i l ih =>
        intro hl
        obtain ⟨p, hp⟩ : ∃ p, L[i]? = some p := ⟨_, List.getElem?_eq_getElem (hl i List.mem_cons_self)⟩
        have e2 : (es.map (·.1))[i]? = some (p.2.hash w) := by rw [Array.getElem?_map, e, hp]; rfl
        rw [List.filterMap_cons_some hp, List.map_cons, List.map_cons, ih fun j hj => hl j (List.mem_cons_of_mem _ hj), Array.getD_eq_getD_getElem?, e2]
        rfl
    exact go _ fun i hi => List.mem_range.mp (hp.mem_iff.mp hi)
variable {a : Addr} {L : List (Addr × NestedKey)} {es : Array (Int × Value)} {ep : Nat} {t : SetTable}
/-- laid anew in a larger table -/
theorem relay_n {o : Obj} (ho : s.heap.get? a = some o) (hex : o.ExactSet) (hd : o.data = .set es ep t) (hr : es.toList = L.map (rowN w)) (hs : t.place.size = L.length) (hdm : t.dummies = #[]) (hle : L.length ≤ t.mask) (nd : (L.map (·.2)).Nodup) (pl : t.plain = true)
    (ld : w.params.followText "set-order" = true ∨ t.led = true) (fw : L.length < 64) {n M : Nat} (hM : SetTable.sizeAbove n - 1 = M) (mM : MaskOk M) (h128 : SetTable.sizeAbove n ≤ 128) (rm : L.length * 5 < M * 3) {Q : Unit → Shared → Prop}
    (q : ∀ h' L' es' ep' t', Heap.SameBut a s.heap h' → SetN w h' a L' es' ep' t' → L'.Perm L → Q () { s with heap := h' }) : wpAny (model P w) A (setRelay a n) Q E s := by
  have hl := rows_len hr
  obtain ⟨t2, order, e, hp, T, em, el, ep2, ed⟩ := relaid_ok t (hs := es.map (·.1)) (wanted := n) hM mM (by rw [Array.size_map, hl]; omega)
  rw [Array.size_map, hl] at hp
  obtain ⟨L2, r1, r2, r3⟩ := order_n hr hp
  rw [← r3] at T
  have hl2 : (order.filterMap (es[·]?)).size = es.size := by rw [rows_len r1, r2.length_eq, hl]
  rw [setRelay_eq]
  refine wpAny_bind (wpAny_setState_of ho hd (fits_of hl hs hdm hle) ?_)
  dsimp only
  refine wp_if_neg (by rw [sizeLine_eq]; omega) ?_
  try refine wpAny_bind (wpAny_pure ?_)
  rw [e]
  dsimp only
  refine wpAny_bind (wp_if_neg (by rw [hl2]; simp) ?_)
  try refine wpAny_bind (wpAny_pure ?_)
  refine wpAny_pure ?_
  dsimp only
  refine wpAny_storeSet_of ho hd ?_ (by rw [hl2, hl, sizeLine_eq]; omega)
  exact q _ L2 _ (ep + 1) t2 (Heap.SameBut.update ..) ⟨⟨_, store_at ho hd, ⟨hex.1, hex.2.1, hex.2.2⟩, rfl⟩, r1, T, (r2.map (·.2)).nodup_iff.mpr nd, ep2.trans pl, by rw [el]; exact ld, by rw [r2.length_eq, em]; exact rm, by rw [r2.length_eq]; exact fw⟩ r2
/-- a member is put in -/
theorem put_n (R : SetN w s.heap a L es ep t) (M : ∀ p ∈ L, Mb s.heap p.2 p.1) {x : Addr} {k : NestedKey} (hx : Mb s.heap k x) (hu : A.units + 8 < cLine) (fw : L.length + 1 < 64) {Q : Bool → Shared → Prop}
    (q : ∀ b h' L' es' ep' t', Heap.SameBut a s.heap h' → SetN w h' a L' es' ep' t' → (k ∈ L.map (·.2) → L' = L) → (k ∉ L.map (·.2) → L'.Perm ((x, k) :: L)) → Q b { s with heap := h' }) :
    wpAny (model P w) A (setAddHashed a (.ref x) (k.hash w)) Q E s := by
  obtain ⟨o, ho, hex, hd⟩ := R.ob
  have hl := rows_len R.rs
  have rm := R.rm
  unfold setAddHashed
  refine wpAny_holding ?_
  rw [show (100000 : Nat) = 99999 + 1 from rfl, setAddHashedIn_succ]
  refine wpAny_bind (wpAny_setState_of ho hd R.fits ?_)
  dsimp only
  refine wp_if_neg (by simp [byScan, Value.scannable]) ?_
  try refine wpAny_bind (wpAny_pure ?_)
  refine wpAny_bind (look_add R M hx hu (fun hm => ?_) fun N hm n2 n3 => ?_)
  · dsimp only
    exact wpAny_pure (q false s.heap L es ep t (Heap.SameBut.refl a s.heap) R (fun _ => rfl) fun z => absurd hm z)
  · dsimp only
    refine wpAny_bind (wpAny_setState_of ho hd R.fits ?_)
    dsimp only
    obtain ⟨p1, p2, p3, p4, p5, p6, p7, p8, p9⟩ := R.tb.put n2 n3
    have hp := p6.trans R.pl
    have hl2 := R.ld
    generalize hpt : t.put (way t.mask (k.hash w) N) = pt at p1 p3 p4 p5 p6 p7 p8 p9 hp ⊢
    obtain ⟨t1, y⟩ := pt
    dsimp only at p1 p3 p4 p5 p6 p7 p8 p9 hp ⊢
    subst p1
    first
      | (refine wpAny_bind ?_; refine wp_if_pos hp ?_; refine byv_key k _ 8 s hx.1 hx.2.1 hx.2.2 _ _ _ ?_)
      | refine wp_if_pos hp (wpAny_bind (byv_key k _ 8 s hx.1 hx.2.1 hx.2.2 _ _ _ ?_))
    simp only [if_true]
    generalize SetTable.below t.place (way t.mask (k.hash w) N) = y at p2 p3 ⊢
    have pm := put_perm L y (x, k)
    have e1 : (SetTable.insertAt es y (k.hash w, Value.ref x)).toList = (L.take y ++ (x, k) :: L.drop y).map (rowN w) := by
      rw [SetTable.toList_insertAt, R.rs, List.map_append, List.map_cons, List.map_take, List.map_drop]
      rfl
    have e2 : (L.take y ++ (x, k) :: L.drop y).map (fun p => p.2.hash w) = (L.map fun p => p.2.hash w).take y ++ k.hash w :: (L.map fun p => p.2.hash w).drop y := by rw [List.map_append, List.map_cons, List.map_take, List.map_drop]
    rw [← e2] at p3
    generalize L.take y ++ (x, k) :: L.drop y = L1 at pm p3 e1 e2
    generalize SetTable.insertAt es y (k.hash w, Value.ref x) = es1 at e1 ⊢
    have ln : L1.length = L.length + 1 := pm.length_eq
    have nd1 : (L1.map (·.2)).Nodup := (pm.map (·.2)).nodup_iff.mpr (List.nodup_cons.mpr ⟨hm, R.nd⟩)
    have ln2 := rows_len e1
    refine wpAny_bind (wpAny_storeSet_of ho hd ?_ (by rw [ln2, ln, sizeLine_eq]; omega))
    have sb : Heap.SameBut a s.heap (s.heap.update a (Obj.putSet es1 t1)) := Heap.SameBut.update ..
    have ho1 := store_at (es' := es1) (t' := t1) ho hd
    generalize s.heap.update a (Obj.putSet es1 t1) = h1 at sb ho1 ⊢
    have ld1 : w.params.followText "set-order" = true ∨ t1.led = true := by rw [p5]; exact hl2
    have sz1 : t1.place.size = L1.length := by rw [p3.sz, List.length_map]
    rw [List.length_map] at p9
    by_cases hf : t1.tooFull = true
    · first
        | (refine wpAny_bind ?_; refine wp_if_pos (by simp [hf]) ?_)
        | (refine wp_if_pos (by simp [hf]) ?_; refine wpAny_bind ?_)
      have full : (L.length + 1) * 5 ≥ t.mask * 3 := by
        have z := hf
        unfold SetTable.tooFull at z
        rw [decide_eq_true_eq, p9, p4] at z
        exact z
      rw [hl]
      have go : ∀ M2, SetTable.sizeAbove (SetTable.grown (L.length + 1)) - 1 = M2 → MaskOk M2 → SetTable.sizeAbove (SetTable.grown (L.length + 1)) ≤ 128 → (L.length + 1) * 5 < M2 * 3 →
          wpAny (model P w) A (setRelay a (SetTable.grown (L.length + 1))) (fun _ s' => wpAny (model P w) A (pure true) Q E s') E { s with heap := h1 } := fun M2 a1 a2 a3 a4 =>
        relay_n (s := { s with heap := h1 }) ho1 ⟨hex.1, hex.2.1, hex.2.2⟩ rfl e1 sz1 p3.dm (by rw [ln, p4]; omega) nd1 hp ld1 (by omega) a1 a2 a3 (by omega) fun h2 L2 es2 ep2 t2 sb2 R2 pm2 =>
          wpAny_pure (q true h2 L2 es2 ep2 t2 (sb.trans sb2) R2 (fun z => absurd z hm) fun _ => pm2.trans pm)
      rcases R.tb.mok with e | e | e
      · have l4 : L.length = 4 := by rw [e] at full rm; omega
        exact go 31 (by rw [l4, size_20]) (.inr (.inl rfl)) (by rw [l4, size_20]; decide) (by omega)
      · have l18 : L.length = 18 := by rw [e] at full rm; omega
        exact go 127 (by rw [l18, size_76]) (.inr (.inr rfl)) (by rw [l18, size_76]; decide) (by omega)
      · rw [e] at full
        omega
    · first
        | refine wp_if_neg (by simp [hf]) ?_
        | (refine wpAny_bind ?_; refine wp_if_neg (by simp [hf]) ?_; refine wpAny_pure ?_)
      refine wpAny_pure (q true h1 L1 es1 (ep + 1) t1 sb ⟨⟨_, ho1, ⟨hex.1, hex.2.1, hex.2.2⟩, rfl⟩, e1, p3, nd1, hp, ld1, ?_, by omega⟩ (fun z => absurd z hm) fun _ => pm)
      unfold SetTable.tooFull at hf
      rw [decide_eq_true_eq, p9] at hf
      omega
end
end Rf
end
section
set_option Elab.async false
set_option linter.all false
set_option maxRecDepth 100000
set_option maxHeartbeats 2000000
/-! Rf, part V: set(xs) and sorted(set(xs)). -/
namespace Rf
open PySem PySem.Spec PyProof.Rows L2
abbrev newSet (w : World) : Obj := { cls := .type "set", dict := none, data := .set #[] 0 (.fresh 0 0 (!w.params.followText "set-order")) }
/-- what the set has of the first i items -/
structure Gt (ks : List (Addr × NestedKey)) (i : Nat) (L : List (Addr × NestedKey)) : Prop where
  sub : ∀ p ∈ L, p ∈ ks.take i
  all : ∀ p ∈ ks.take i, p.2 ∈ L.map (·.2)
  len : L.length ≤ i
theorem Gt.next {ks L L' : List (Addr × NestedKey)} {i : Nat} {x : Addr × NestedKey} (g : Gt ks i L) (h : ks[i]? = some x) (c1 : x.2 ∈ L.map (·.2) → L' = L) (c2 : x.2 ∉ L.map (·.2) → L'.Perm (x :: L)) : Gt ks (i + 1) L' := by
  have tk := take_next h
  rcases Classical.em (x.2 ∈ L.map (·.2)) with c | c
  · rw [c1 c]
    refine ⟨fun p hp => by rw [tk]; exact List.mem_append_left _ (g.sub p hp), fun p hp => ?_, Nat.le_succ_of_le g.len⟩
    rw [tk] at hp
    rcases List.mem_append.mp hp with z | z
    · exact g.all p z
    · rwa [List.mem_singleton.mp z]
  · have pm := c2 c
    refine ⟨fun p hp => ?_, fun p hp => ?_, by rw [pm.length_eq]; exact Nat.succ_le_succ g.len⟩
    · rw [tk]
      rcases List.mem_cons.mp (pm.mem_iff.mp hp) with z | z
      · exact List.mem_append_right _ (List.mem_singleton.mpr z)
      · exact List.mem_append_left _ (g.sub p z)
    · rw [tk] at hp
      refine (pm.map (·.2)).mem_iff.mpr ?_
      rcases List.mem_append.mp hp with z | z
      · exact List.mem_cons_of_mem _ (g.all p z)
      · rw [List.mem_singleton.mp z]
        exact List.mem_cons_self
section
variable {P : Program} {w : World} {A : Around} {E : Value → Shared → Prop} {s : Shared}
theorem fresh_n {h : Heap} {a : Addr} (ho : h.get? a = some (newSet w)) : SetN w h a [] #[] 0 (.fresh 0 0 (!w.params.followText "set-order")) where
  ob := ⟨_, ho, ⟨rfl, rfl, rfl⟩, rfl⟩
  rs := rfl
  tb := ⟨List.Pairwise.nil, rfl, rfl, .inl rfl, fun x hx => (by cases hx), fun i h j hi => (by simp at hi)⟩
  nd := List.nodup_nil
  pl := rfl
  ld := by
    show _ ∨ (!w.params.followText "set-order") = true
    cases w.params.followText "set-order"
    · exact .inr rfl
    · exact .inl rfl
  rm := by
    show 0 * 5 < 7 * 3
    decide
  fw := by
    show 0 < 64
    decide
theorem SetN.moved {h h' : Heap} {a : Addr} {L : List (Addr × NestedKey)} {es : Array (Int × Value)} {ep : Nat} {t : SetTable} (R : SetN w h a L es ep t) (k : ∀ o, h.get? a = some o → h'.get? a = some o) : SetN w h' a L es ep t := by
  obtain ⟨o, ho, r⟩ := R.ob
  exact ⟨⟨o, k o ho, r⟩, R.rs, R.tb, R.nd, R.pl, R.ld, R.rm, R.fw⟩
/-- all items are put in -/
theorem loop_n {I : Addr} {fp wr : List Addr} {G : Array GenState → Array GenState → Prop} {n : Nat} {Pv : Nat → Value → Prop} {St : Nat → Shared → Prop} {R : Result → Shared → Prop} (W : WalksS P w A.in1 I fp wr G n Pv St) (S : Addr) (hf : S ∉ fp)
    (ks : List (Addr × NestedKey)) (hn : n = ks.length) (fw : ks.length < 64) (hv : ∀ i v, Pv i v → ∃ p, ks[i]? = some p ∧ v = .ref p.1) (h0 : Heap) (hk : ∀ p ∈ ks, Mb h0 p.2 p.1) (hS : h0.get? S = none) (hw : ∀ b ∈ wr, h0.get? b = none) (hu : A.in1.units + 8 < cLine) (s0 : Shared)
    (fin : ∀ (s1 : Shared) L es ep t, Moved (S :: wr) G s0 s1 → SetN w s1.heap S L es ep t → Gt ks n L → (∀ b o, h0.get? b = some o → s1.heap.get? b = some o) → R (.ok (.ret .none)) s1) :
    ∀ (k i : Nat) (s : Shared), n - i = k → i ≤ n → St i s → Moved (S :: wr) G s0 s → (∀ b o, h0.get? b = some o → s.heap.get? b = some o) → (∃ L es ep t, SetN w s.heap S L es ep t ∧ Gt ks i L) → codeAny (model P w) A (.builtin "set.update.loop" ⟨[.ref S, .ref I], []⟩) R s := by
  have hSw : S ∉ wr := fun h => hf (W.sub _ h)
  have sub2 : ∀ b ∈ wr, b ∈ S :: wr := fun b hb => List.mem_cons_of_mem _ hb
  have old : ∀ {s s' : Shared}, Moved wr G s s' → (∀ b o, h0.get? b = some o → s.heap.get? b = some o) → ∀ b o, h0.get? b = some o → s'.heap.get? b = some o := fun hm k b o e => hm.heap b o (fun hb => by rw [hw b hb] at e; cases e) (k b o e)
  intro k
  induction k with
  | zero =>
    intro i s hk2 hi hst mv hkp ⟨L, es, ep, t, hN, g⟩
    have e : i = n := by omega
    subst e
    refine codeAny_builtin F.entry_set_update_loop ?_
    rw [Around.under_plainId F.plain_set_update_loop _]
    show wpAny _ A.in1 (pyNext (.ref I) >>= _) _ _ s
    refine wpAny_bind (W.done s _ _ hst fun s2 hm => ?_)
    show wpAny _ A.in1 (ret Value.none) _ _ s2
    exact wpAny_pure (fin s2 L es ep t (Moved.trans W.gtrans mv (hm.mono sub2)) (hN.moved fun o e => hm.heap S o hSw e) g (old hm hkp))
  | succ k ih =>
    intro i s hk2 hi hst mv hkp ⟨L, es, ep, t, hN, g⟩
    have lt : i < n := by omega
    refine codeAny_builtin F.entry_set_update_loop ?_
    rw [Around.under_plainId F.plain_set_update_loop _]
    show wpAny _ A.in1 (pyNext (.ref I) >>= _) _ _ s
    refine wpAny_bind (W.item i s _ _ lt hst fun v s2 hP hst2 hm => ?_)
    obtain ⟨p, hp, rfl⟩ := hv i v hP
    have kp2 := old hm hkp
    have mem : ∀ q ∈ L, Mb s2.heap q.2 q.1 := fun q hq => (hk q (List.mem_of_mem_take (g.sub q hq))).keep kp2
    have hx : Mb s2.heap p.2 p.1 := (hk p (List.mem_of_getElem? hp)).keep kp2
    show wpAny _ A.in1 (holding [Value.ref p.1] (setAdd S (.ref p.1)) >>= _) _ _ s2
    refine wpAny_bind (wpAny_holding ?_)
    unfold setAdd
    refine wpAny_holding ?_
    refine wpAny_bind ((nestedKind P w).pyHash (show A.in1.units + 8 < cLine from hu) hx.kd ?_)
    refine put_n (s := { s2 with toks := s2.toks + p.2.draws }) (hN.moved fun o e => hm.heap S o hSw e) mem hx hu (by have := g.len; omega) fun b h2 L2 es2 ep2 t2 sb hN2 c1 c2 => ?_
    have kp3 : ∀ b o, h0.get? b = some o → h2.get? b = some o := fun b o e => (sb.2 b (fun z => by rw [z, hS] at e; cases e)).trans (kp2 b o e)
    refine wpAny_pure ⟨plainId_quiet F.plain_set_update_loop _, ih (i + 1) _ (by omega) lt (W.frame _ s2 _ _ hst2 (Nat.le_add_right _ _) fun b hb o e => ?_) (Moved.trans W.gtrans mv ((hm.mono sub2).then_heap (Nat.le_add_right _ _) fun b o hb e => ?_)) kp3 ⟨L2, es2, ep2, t2, hN2, g.next hp c1 c2⟩⟩
    · rw [sb.2 b (fun h : b = S => hf (by rw [← h]; exact hb))]; exact e
    · rw [sb.2 b (fun h : b = S => hb (by rw [h]; exact List.mem_cons_self))]; exact e
end
end Rf
end
section
set_option Elab.async false
set_option linter.all false
set_option maxRecDepth 100000
set_option maxHeartbeats 3200000
/-! Rf, part V2: the call set(xs). -/
namespace Rf
open PySem PySem.Spec PyProof.Rows L2
section
variable {P : Program} {w : World} {A : Around} {E : Value → Shared → Prop} {s : Shared}
/-- set(xs) of a list: Good: what the loop over the items brings about -/
theorem set_by {l : Addr} {items : Array Value} {Good : Heap → Prop} {Q : Value → Shared → Prop} (hh : A.handled = none) (hl : s.heap.IsList l items)
    (loop : ∀ (B : Around) (I : Addr) (G : Array GenState → Array GenState → Prop) (Pv : Nat → Value → Prop) (St : Nat → Shared → Prop) (R : Result → Shared → Prop) (s1 : Shared), B.in1.units ≤ A.units + 3 →
      WalksS P w B.in1 I [I, l] [I] G items.size Pv St → (∀ i v, Pv i v → items[i]? = some v) → s.heap.objs.size ∉ [I, l] → s.heap.get? I = none → St 0 s1 → (∀ b o, s.heap.get? b = some o → s1.heap.get? b = some o) → s1.heap.get? s.heap.objs.size = some (newSet w) →
      (∀ s2, Moved (s.heap.objs.size :: [I]) G s1 s2 → Good s2.heap → (∀ b o, s.heap.get? b = some o → s2.heap.get? b = some o) → R (.ok (.ret .none)) s2) →
      codeAny (model P w) B (.builtin "set.update.loop" ⟨[.ref s.heap.objs.size, .ref I], []⟩) R s1)
    (h : ∀ (h' : Heap) (tk : Nat), Good h' → (∀ b o, s.heap.get? b = some o → h'.get? b = some o) → Q (.ref s.heap.objs.size) { s with heap := h', toks := tk }) :
    wpAny (model P w) A (call (.type "set") [.ref l]) Q E s := by
  obtain ⟨c, tl, hmro⟩ := F.called_set.mro
  have g1 := F.called_set.made
  have g2 := F.called_set.sub
  refine wpAny_call (codeAny_of_tree ?_)
  show wpAny _ _ (callAny (.type "set") _) _ _ _
  refine wpAny_pure ⟨Code.quiet_builtin _ (by decide +kernel), codeAny_builtin F.entry_type_call ?_⟩
  rw [Around.under_plain (weight_type_call_type "set" [.ref l] []) rfl]
  have g3 := F.called_set.notType
  have g4 := F.called_set.canCreate
  have g5 := F.typeCall_set_1 (.ref l)
  repeat (any_goals (first | assumption | wp_step))
  refine codeAny_mono (code_set_led1 (.ref l) (E := E) (Q₁ := fun u z => u = .ref s.heap.objs.size ∧ z = { s with heap := s.heap.push (newSet w) }) ⟨rfl, rfl⟩) fun r z hr => ?_
  cases r with
  | error e => exact hr
  | ok fl =>
    cases fl with
    | ret u =>
      obtain ⟨rfl, rfl⟩ := hr
      have at1 : (s.heap.push (newSet w)).get? s.heap.objs.size = some (newSet w) := Heap.get?_push_size _ rfl
      have ty : Shared.TypeIs { s with heap := s.heap.push (newSet w) } (.ref s.heap.objs.size) "set" := ⟨_, at1, rfl⟩
      have g6 := F.called_set.init.lookup
      have g7 := F.called_set.init.bind (.ref s.heap.objs.size)
      repeat (any_goals (first | assumption | wp_step))
      refine codeAny_mono (codeAny_call_builtin (R := wants (fun r z => r = .none ∧ ∃ h' tk, z = { s with heap := h', toks := tk } ∧ Good h' ∧ ∀ b o, s.heap.get? b = some o → h'.get? b = some o) E) F.called_set.init.plain F.entry_set_init (check_set_init_1 ty ?_)) fun r2 z2 hr2 => ?_
      · obtain ⟨ol, hol, hcl, nl, hdl⟩ := hl
        obtain ⟨k1, k2, k3, k4⟩ := ol
        simp only at hcl hdl
        subst hcl hdl
        have hol2 : (s.heap.push (newSet w)).get? l = some { cls := .type "list", dict := k2, data := .seq items nl, slots := k4 } := Heap.get?_push_of_some _ hol
        have g8 := F.sub_list_set
        have g9 := F.sub_list_frozenset
        have g10 : (Value.type "list" == Value.type "dict") = false := by decide
        have li : (s.heap.push (newSet w)).IsList l items := ⟨_, hol2, rfl, nl, rfl⟩
        have lt := Heap.lt_size hol
        have z1 : (s.heap.push (newSet w)).objs.size = s.heap.objs.size + 1 := Heap.size_push ..
        unfold Builtin.«set.__init__» noKeywords Builtin.Frozenset.updateFrom
        generalize hPI : pyIter = PI
        wp_walk
        subst hPI
        refine wpAny_pyIter_list li ?_
        refine wpAny_bind (wpAny_runValue ?_)
        have none_of : ∀ b, s.heap.objs.size ≤ b → s.heap.get? b = none := fun b hb => by
          cases q : s.heap.get? b with
          | none => rfl
          | some o => exact absurd (Nat.lt_of_lt_of_le (Heap.lt_size q) hb) (Nat.lt_irrefl _)
        refine loop _ _ _ _ _ _ _ ?_ ((Walks.list (by simp [hh]) _ l (by rw [z1]; exact Nat.ne_of_lt (Nat.lt_succ_of_lt lt)) items).toS) (fun _ _ e => e) ?_ (none_of _ (by rw [z1]; exact Nat.le_succ _)) ⟨⟨_, Heap.get?_push_size _ rfl, rfl, rfl⟩, li.push _⟩ (fun b o e => Heap.get?_push_of_some _ (Heap.get?_push_of_some _ e)) (Heap.get?_push_of_some _ at1) fun s2 mv gd kp => ?_
        · simp [Around.in1]
        · rw [z1]
          simp only [List.mem_cons, List.not_mem_nil, or_false, not_or]
          exact ⟨Nat.ne_of_lt (Nat.lt_succ_self _), Nat.ne_of_gt lt⟩
        · obtain ⟨h', y2, y3, tk', y5⟩ := s2
          have e1 : y2 = s.gens := mv.gens
          have e2 : y3 = s.drawn := mv.drawn
          have e3 : y5 = s.os := mv.os
          subst e1 e2 e3
          show wpAny _ _ _ _ _ _
          refine wpAny_pure ?_
          show wpAny _ _ (ret Value.none) _ _ _
          exact wpAny_pure ⟨rfl, h', tk', rfl, gd, kp⟩
      · cases r2 with
        | error e => exact hr2
        | ok fl2 =>
          cases fl2 with
          | ret r =>
            obtain ⟨rfl, h', tk, rfl, gd, kp⟩ := hr2
            repeat (any_goals (first | assumption | wp_step))
            exact h _ _ gd kp
          | _ => exact hr2.elim
    | _ => exact hr.elim
end
end Rf
end
section
set_option Elab.async false
set_option linter.all false
set_option maxRecDepth 100000
set_option maxHeartbeats 2000000
/-! Rf, part W: sorted(set(xs)). -/
namespace Rf
open PySem PySem.Spec PyProof.Rows L2
mutual
theorem data_key : ∀ {d : D} {k : NestedKey}, keyOf d = some k → k.data = d
  | .none, _, e => by cases e; rfl
  | .bool _, _, e => by cases e
  | .int i, _, e => by cases e; rfl
  | .str x, _, e => by cases e; rfl
  | .tuple xs, _, e => by
    unfold keyOf at e
    obtain ⟨ks, e1, rfl⟩ := Option.map_eq_some_iff.mp e
    show PyData.tuple (NestedKey.datas ks) = _
    rw [datas_keys e1]
  | .list _, _, e => by cases e
  | .dict _, _, e => by cases e
theorem datas_keys : ∀ {ds : List D} {ks : List NestedKey}, keysOf ds = some ks → NestedKey.datas ks = ds
  | [], _, e => by cases e; rfl
  | x :: xs, _, e => by
    unfold keysOf at e
    split at e
    · rename_i k ks e1 e2
      cases e
      show NestedKey.data k :: NestedKey.datas ks = _
      rw [data_key e1, datas_keys e2]
    · cases e
end
/-- each once -/
def uniq : List NestedKey → List NestedKey
  | [] => []
  | k :: ks => if k ∈ ks then uniq ks else k :: uniq ks
theorem mem_uniq {k : NestedKey} : ∀ {ks : List NestedKey}, k ∈ uniq ks ↔ k ∈ ks
  | [] => Iff.rfl
  | x :: ks => by
    unfold uniq
    split
    · rename_i h
      rw [mem_uniq]
      refine ⟨fun z => List.mem_cons_of_mem _ z, fun z => ?_⟩
      rcases List.mem_cons.mp z with rfl | z
      · exact h
      · exact z
    · rw [List.mem_cons, List.mem_cons, mem_uniq]
theorem nd_uniq : ∀ ks : List NestedKey, (uniq ks).Nodup
  | [] => List.nodup_nil
  | x :: ks => by
    unfold uniq
    split
    · exact nd_uniq ks
    · rename_i h
      exact List.nodup_cons.mpr ⟨fun z => h (mem_uniq.mp z), nd_uniq ks⟩
abbrev kLe (a b : NestedKey) : Bool := PySem.W.dataLe false (fun k : NestedKey => k.data) a b
def antiK (ks : List NestedKey) : Bool := ks.all fun a => ks.all fun b => !(kLe a b && kLe b a) || decide (a = b)
def isNum : NestedKey → Bool
  | .num _ => true
  | _ => false
def isTp : NestedKey → Bool
  | .tup _ => true
  | _ => false
/-- sorted(set(..)) of these -/
def srtK (ks : List NestedKey) : List NestedKey := (uniq ks).mergeSort kLe
theorem le_total : PySem.W.TotalLe kLe := PySem.W.sortLe_total _ _ _
theorem srtK_eq {ks l : List NestedKey} (h : antiK ks = true) (hm : ∀ k, k ∈ l ↔ k ∈ ks) (nd : l.Nodup) : l.mergeSort kLe = srtK ks := by
  have pm : l.Perm (uniq ks) := (List.perm_ext_iff_of_nodup nd (nd_uniq ks)).mpr fun k => by rw [hm, mem_uniq]
  refine List.Perm.eq_of_pairwise (le := fun a b => kLe a b = true) (fun a b ha hb h1 h2 => ?_) (PySem.W.sort_pairwise le_total _) (PySem.W.sort_pairwise le_total _) (((List.mergeSort_perm l kLe).trans pm).trans (List.mergeSort_perm _ kLe).symm)
  have ka : a ∈ ks := (hm a).mp ((List.mergeSort_perm l kLe).mem_iff.mp ha)
  have kb : b ∈ ks := mem_uniq.mp ((List.mergeSort_perm _ kLe).mem_iff.mp hb)
  have z := List.all_eq_true.mp (List.all_eq_true.mp h a ka) b kb
  rw [h1, h2] at z
  simpa using z
/-- what may be done so -/
def setOk (ds : List D) (ks : List NestedKey) : Bool := decide (ks.length < 63) && antiK ks && srtOk ds && (ks.all isNum || ks.all fun k => isTp k && noTx k && Nat.ble k.depth 8)
def srtSetD : D → Option D
  | .list ds => match keysOf ds with
    | some ks => if setOk ds ks then some (.list ((srtK ks).map NestedKey.data)) else none
    | none => none
  | _ => none
end Rf
end
section
set_option Elab.async false
set_option linter.all false
set_option maxRecDepth 100000
set_option maxHeartbeats 2000000
/-! Rf, part X: sorted(set(xs)), in the abstract heap. -/
namespace Rf
open PySem PySem.Spec PyProof.Rows L2
/-- the members' set as an object -/
def SetNO (w : World) (a : Addr) (L : List (Addr × NestedKey)) : HO := .ext fun h => ∃ es ep t, SetN w h a L es ep t
theorem setNO_ok {P : Program} {w : World} {H : Hp} {h : Heap} {a : Addr} {L : List (Addr × NestedKey)} (R : ∃ es ep t, SetN w h a L es ep t) : ObjOk P w H h a (SetNO w a L) := by
  refine ⟨R, ?_, fun h1 h2 p k => ?_⟩
  · obtain ⟨es, ep, t, R⟩ := R
    obtain ⟨o, ho, _⟩ := R.ob
    exact ⟨o, ho⟩
  · obtain ⟨es, ep, t, R⟩ : ∃ es ep t, SetN w h1 a L es ep t := p
    exact ⟨es, ep, t, R.moved k⟩
theorem perm_pre {α β : Type} {f : α → β} {a b : List β} (h : a.Perm b) : ∀ l : List α, b = l.map f → ∃ l' : List α, l'.Perm l ∧ a = l'.map f := by
  induction h with
  | nil =>
    intro l e
    cases l with
    | nil => exact ⟨[], List.Perm.refl _, rfl⟩
    | cons _ _ => cases e
  | cons x _ ih =>
    intro l e
    cases l with
    | nil => cases e
    | cons y l =>
      cases e
      obtain ⟨l', p, e⟩ := ih l rfl
      exact ⟨y :: l', p.cons y, by rw [e]; rfl⟩
  | swap x y _ =>
    intro l e
    cases l with
    | nil => cases e
    | cons u l =>
      cases l with
      | nil => cases e
      | cons v l =>
        cases e
        exact ⟨v :: u :: l, .swap _ _ _, rfl⟩
  | trans _ _ ih1 ih2 =>
    intro l e
    obtain ⟨l2, p2, e2⟩ := ih2 l e
    obtain ⟨l1, p1, e1⟩ := ih1 l2 e2
    exact ⟨l1, p1.trans p2, e1⟩
mutual
theorem reads_key : ∀ {d : D} {k : NestedKey} {h : Heap} {v : Value} {as : List Addr}, keyOf d = some k → Reads h v d as → as = []
  | .none, _, _, _, _, _, r => by cases r; rfl
  | .bool _, _, _, _, _, e, _ => by cases e
  | .int _, _, _, _, _, _, r => by cases r; rfl
  | .str _, _, _, _, _, _, r => by cases r; rfl
  | .tuple xs, _, _, _, _, e, r => by
    unfold keyOf at e
    obtain ⟨ks, e1, _⟩ := Option.map_eq_some_iff.mp e
    cases r with
    | tuple _ _ _ ra => exact reads_keys e1 ra
  | .list _, _, _, _, _, e, _ => by cases e
  | .dict _, _, _, _, _, e, _ => by cases e
theorem reads_keys : ∀ {ds : List D} {ks : List NestedKey} {h : Heap} {vs : List Value} {as : List Addr}, keysOf ds = some ks → ReadsAll h vs ds as → as = []
  | [], _, _, _, _, _, r => by cases r; rfl
  | x :: xs, _, _, _, _, e, r => by
    unfold keysOf at e
    split at e
    · rename_i k ks e1 e2
      cases r with
      | cons r1 r2 => rw [reads_key e1 r1, reads_keys e2 r2]; rfl
    · cases e
end
section
variable {X : Cx}
/-- set(xs), xs a list of ints -/
def rSetI (K : PySem.W.Frag) (w : World) : List V → Hp → VK → Prop := fun vs H Q => ∃ (l : Addr) (ns : List Int), vs = [V.ref l] ∧ SqL K H l (ns.map V.int) ∧ ns.length < 63 ∧ ∀ a c, H a = none → c ≤ ns.length → Q (.ref a) (upd H a (SetO w a (fun j => decide (j ∈ ns)) c))
theorem cr_setI (hc : X.calm = true) : CallR X (.type "set") (rSetI X.K X.w) := by
  intro pins s σ H vs us Q I r h
  obtain ⟨l, ns, rfl, hl, fw, q⟩ := h
  rw [Vals.ref1 r]
  obtain ⟨its, rv, pl, hz⟩ := I.list hl
  have hn : H s.heap.objs.size = none := I.hok.fresh (Nat.le_refl _)
  have ia : IntsAre its ns := by simpa using rv.ints
  have ln : its.toArray.size = ns.length := by rw [List.size_toArray, ← rv.length, List.length_map]
  refine set_by (P := X.prog) (w := X.w) (Good := fun h => ∃ c, c ≤ ns.length ∧ SetR X.w h s.heap.objs.size (fun j => decide (j ∈ ns)) c) (I.ok.hd hc) pl.isList (fun B J G Pv St R s1 hu W hv hS hJ st kp fr fin => ?_) fun h' tk ⟨c, c1, c2⟩ kp => ?_
  · rw [ln] at W
    refine set_update_ints W s.heap.objs.size hS ns rfl (by unfold scanBound; omega) (fun i v e => ?_) _ 0 s1 rfl (Nat.zero_le _) st ⟨0, Nat.le_refl _, setR_new_at fr⟩ fun s2 c mv hc hR => fin s2 mv ⟨c, hc, hR⟩ fun b o e => mv.heap b o (fun z => ?_) (kp b o e)
    · have e1 : its[i]? = some v := by simpa using hv i v e
      obtain ⟨t, e2⟩ := IntsAre.int_at ia i v e1
      have lt : i < ns.length := by rw [← ln]; exact (by simpa using (List.getElem?_eq_some_iff.mp e1).1)
      exact ⟨_, t, by rw [List.getD_eq_getElem?_getD, List.getElem?_eq_getElem lt]; rfl, e2⟩
    · rcases List.mem_cons.mp z with z | z
      · rw [z] at e
        exact absurd (Heap.lt_size e) (Nat.lt_irrefl _)
      · rw [List.mem_singleton.mp z, hJ] at e
        cases e
  · exact ⟨.ref s.heap.objs.size, upd H s.heap.objs.size (SetO X.w s.heap.objs.size (fun j => decide (j ∈ ns)) c), I.laid (t' := tk) kp (Nat.le_refl _) (setO_new c2), rfl, q _ c hn c1⟩
/-- set(xs), xs a list of tuples -/
def rSetN (X : Cx) : List V → Hp → VK → Prop := fun vs H Q => ∃ (l : Addr) (ps : List (Addr × NestedKey)), vs = [V.ref l] ∧ SqL X.K H l (ps.map fun p => V.ref p.1) ∧ (∀ p ∈ ps, KeyAt X H (.ref p.1) p.2 ∧ p.2.depth ≤ 8 ∧ noTx p.2 = true) ∧ ps.length < 64 ∧
  ∀ a L, H a = none → (∀ p ∈ L, p ∈ ps) → (∀ p ∈ ps, p.2 ∈ L.map (·.2)) → (L.map (·.2)).Nodup → Q (.ref a) (upd H a (SetNO X.w a L))
theorem cr_setN (hc : X.calm = true) (hu : X.A.units + 64 < cLine) : CallR X (.type "set") (rSetN X) := by
  intro pins s σ H vs us Q I r h
  obtain ⟨l, ps, rfl, hl, hk, fw, q⟩ := h
  rw [Vals.ref1 r]
  obtain ⟨its, rv, pl, hz⟩ := I.list hl
  have hn : H s.heap.objs.size = none := I.hok.fresh (Nat.le_refl _)
  have mb : ∀ p ∈ ps, Mb s.heap p.2 p.1 := fun p hp => ⟨(hk p hp).1 pins σ s _ I rfl, (hk p hp).2⟩
  have it : its = ps.map fun p => Value.ref p.1 := by
    have go : ∀ {ps : List (Addr × NestedKey)} {us : List Value}, Vals (ps.map fun p => V.ref p.1) us → us = ps.map fun p => Value.ref p.1 := by
      intro ps
      induction ps with
      | nil => intro us z; cases z; rfl
      | cons p ps ih => intro us z; cases z with | cons r t => cases r; rw [ih t]; rfl
    exact go rv
  have ln : its.toArray.size = ps.length := by rw [it, List.size_toArray, List.length_map]
  refine set_by (P := X.prog) (w := X.w) (Good := fun h => ∃ L es ep t, SetN X.w h s.heap.objs.size L es ep t ∧ Gt ps ps.length L) (I.ok.hd hc) pl.isList (fun B J G Pv St R s1 hu2 W hv hS hJ st kp fr fin => ?_) fun h' tk ⟨L, es, ep, t, c2, g⟩ kp => ?_
  · rw [ln] at W
    refine loop_n W s.heap.objs.size hS ps rfl fw (fun i v e => ?_) s.heap mb (by
      cases e : s.heap.get? s.heap.objs.size with
      | none => rfl
      | some o => exact absurd (Heap.lt_size e) (Nat.lt_irrefl _)) (fun b hb => by rw [List.mem_singleton.mp hb]; exact hJ) (by omega) s1 (fun s2 L es ep t mv hN g kp2 => fin s2 mv ⟨L, es, ep, t, hN, g⟩ kp2) _ 0 s1 rfl (Nat.zero_le _) st (Moved.refl W.grefl) kp ⟨[], _, _, _, fresh_n fr, fun p h => (by cases h), fun p h => (by simp at h), Nat.le_refl _⟩
    · have e1 : its[i]? = some v := by simpa using hv i v e
      rw [it, List.getElem?_map] at e1
      obtain ⟨p, e2, e3⟩ := Option.map_eq_some_iff.mp e1
      exact ⟨p, e2, e3.symm⟩
  · refine ⟨.ref s.heap.objs.size, upd H s.heap.objs.size (SetNO X.w s.heap.objs.size L), I.laid (t' := tk) kp (Nat.le_refl _) (setNO_ok ⟨es, ep, t, c2⟩), rfl, q _ L hn (fun p hp => List.mem_of_mem_take (g.sub p hp)) (fun p hp => g.all p (by rw [List.take_length]; exact hp)) c2.nd⟩
/-- sorted(a set of tuples) -/
def rSortN (X : Cx) (Rx : V → NestedKey → Prop) : List V → Hp → VK → Prop := fun vs H Q => ∃ (a : Addr) (L : List (Addr × NestedKey)), vs = [V.ref a] ∧ H a = some (SetNO X.w a L) ∧ (∀ p ∈ L, Rx (.ref p.1) p.2 ∧ keyOf p.2.data = some p.2) ∧ (∀ x k, Rx x k → Dp X.K H x k.data) ∧
  (∀ p ∈ L, ∀ q ∈ L, PySem.W.alike p.2.data q.2.data = true) ∧ (∀ p ∈ L, SeqAt.shaped p.2.data = true ∧ (isTupC p.2.data = true)) ∧ ∀ (ks : List NestedKey) (ys : List V) (p : Addr), ks.Perm (L.map (·.2)) → Paired Rx ys (ks.mergeSort kLe) → H p = none → Q (.ref p) (upd H p (.lst ys))
theorem cr_sortN {Rx : V → NestedKey → Prop} (hc : X.calm = true) (hu : X.A.units + 80 < cLine) : CallR X (.builtin "sorted") (rSortN X Rx) := by
  intro pins s σ H vs us Q I r h
  obtain ⟨a, L, rfl, ha, hk, hR, al, sh, q⟩ := h
  rw [Vals.ref1 r]
  obtain ⟨es, ep, t, R⟩ : ∃ es ep t, SetN X.w s.heap a L es ep t := (I.hok a _ ha).1
  obtain ⟨o, ho, hex, hd⟩ := R.ob
  have fw := R.fw
  have hl := rows_len R.rs
  refine Calls.call_function_entry kind_sorted plain_sorted entry_sorted (args_sorted1 _) ?_
  unfold Builtin.«sorted»
  refine wpAny_bind (m := checkCount "sorted" 1 1 _) (wpAny_pure ?_)
  refine wpAny_bind (collect_set (A := X.A.in1) (I.ok.hd hc) ⟨o, ho, hex.1, hd⟩ R.fits (by unfold scanBound; omega) R.tb.ris R.ld fun s1 vs k1 z1 g1 o1 pm => ?_)
  rw [R.rs, List.map_map] at pm
  obtain ⟨M, pM, rfl⟩ := perm_pre (f := fun p : Addr × NestedKey => Value.ref p.1) pm L rfl
  have lM := pM.length_eq
  have mL : ∀ p ∈ M, p ∈ L := fun p hp => pM.mem_iff.mp hp
  refine wpAny_bind (wpAny_newList ?_ (by rw [List.length_map, sizeLine_eq]; omega))
  have atL : (s1.heap.push (seqObj "list" (M.map fun p => Value.ref p.1).toArray 0)).get? s1.heap.objs.size = some (seqObj "list" (M.map fun p => Value.ref p.1).toArray 0) := Heap.get?_push_size _ rfl
  have each : ∀ {l : List (Addr × NestedKey)} {S : Value → NestedKey → Prop}, (∀ p ∈ l, S (.ref p.1) p.2) → PySem.W.EachIs S (l.map fun p => Value.ref p.1) (l.map (·.2)) := fun {l S} => by
    induction l with
    | nil => intro _; exact .nil
    | cons p l ih => intro h; exact .cons (h p List.mem_cons_self) (ih fun q hq => h q (List.mem_cons_of_mem _ hq))
  refine wpAny_bind (wpAny_holding (PySem.W.list_sort_data (s := { s1 with heap := s1.heap.push (seqObj "list" (M.map fun p => Value.ref p.1).toArray 0) }) (enc := NestedKey.data) (R := fun u k => ∃ x, RelV x u ∧ Rx x k) atL
    (each fun p hp => ⟨.ref p.1, rfl, (hk p (mL p hp)).1⟩) (each fun p hp => ?_) (fun d hd' e he => ?_) ?_ (by rw [List.length_map, sizeLine_eq]; omega) (fun k hk2 => ?_) fun out l1 e1 => ?_))
  · obtain ⟨as, ra⟩ := Dp.reads I p.2.data (.ref p.1) (.ref p.1) (hR _ _ (hk p (mL p hp)).1) rfl
    rw [reads_key (hk p (mL p hp)).2 ra] at ra
    exact ⟨[], PyProof.Rows.Reads.keeps (fun b u e => Heap.get?_push_of_some _ (k1 b u e)) ra, by simp⟩
  · obtain ⟨x, hx, rfl⟩ := List.mem_map.mp hd'
    obtain ⟨p, hp, rfl⟩ := List.mem_map.mp hx
    obtain ⟨y, hy, rfl⟩ := List.mem_map.mp he
    obtain ⟨p2, hp2, rfl⟩ := List.mem_map.mp hy
    exact al p (mL p hp) p2 (mL p2 hp2)
  · refine .inl fun d hd' => ?_
    obtain ⟨x, hx, rfl⟩ := List.mem_map.mp hd'
    obtain ⟨p, hp, rfl⟩ := List.mem_map.mp hx
    have z := (sh p (mL p hp)).2
    generalize p.2.data = d at z
    cases d with
    | tuple xs => cases xs with
      | nil => cases z
      | cons x r => exact ⟨x, r, rfl⟩
    | _ => cases z
  · obtain ⟨p, hp, rfl⟩ := List.mem_map.mp hk2
    have := SeqAt.depth_of_shaped (sh p (mL p hp)).1
    show X.A.units + 1 + 1 + _ < cLine
    omega
  · obtain ⟨c, hc2⟩ := sortedHeap_at (vs := M.map fun p => Value.ref p.1) (out := out.toArray) atL
    obtain ⟨ys, v1, v2⟩ : ∃ ys, Vals ys out ∧ Paired Rx ys ((M.map (·.2)).mergeSort kLe) := by
      have go : ∀ {us : List Value} {ks : List NestedKey}, PySem.W.EachIs (fun u k => ∃ x, RelV x u ∧ Rx x k) us ks → ∃ ys, Vals ys us ∧ Paired Rx ys ks := by
        intro us ks h
        induction h with
        | nil => exact ⟨[], .nil, .nil⟩
        | cons h _ ih =>
          obtain ⟨x, h1, h2⟩ := h
          obtain ⟨ys, h3, h4⟩ := ih
          exact ⟨x :: ys, .cons h1 h3, .cons h2 h4⟩
      exact go e1
    have old : ∀ b u, s.heap.get? b = some u → (sortedHeap (s1.heap.push (seqObj "list" (M.map fun p => Value.ref p.1).toArray 0)) s1.heap.objs.size (M.map fun p => Value.ref p.1) out.toArray).get? b = some u := fun b u e => by
      have e2 := k1 b u e
      have lt := Heap.lt_size e2
      rw [sortedHeap_old (Nat.ne_of_lt lt) (by rw [size_push']; exact Nat.lt_succ_of_lt lt)]
      exact Heap.get?_push_of_some _ e2
    have hn : H s1.heap.objs.size = none := I.hok.fresh z1
    have hlen : ys.length ≤ sizeLine := by rw [v2.length, List.length_mergeSort, List.length_map, lM, sizeLine_eq]; omega
    refine wpAny_pure ⟨_, rfl, ?_⟩
    obtain ⟨h1, y2, y3, y4, y5⟩ := s1
    dsimp only at g1 o1
    subst g1 o1
    have J : Inv X pins σ (upd H h1.objs.size (.lst ys)) { s with heap := sortedHeap (h1.push (seqObj "list" (M.map fun p => Value.ref p.1).toArray 0)) h1.objs.size (M.map fun p => Value.ref p.1) out.toArray, gens := s.gens, drawn := y3, toks := y4 } :=
      I.call (ch := []) (Un.laid old z1 hn) (I.hok.laid old z1 ⟨hlen, out, c, v1, hc2⟩) I.bare (fun _ z => nomatch z)
    exact ⟨.ref h1.objs.size, _, J, rfl, q _ ys h1.objs.size (pM.map (·.2)) v2 hn⟩
end
end Rf
end
section
set_option Elab.async false
set_option linter.all false
set_option maxRecDepth 100000
set_option maxHeartbeats 2000000
/-! Rf, part Y: sorted(set(xs)) by data. -/
namespace Rf
open PySem PySem.Spec L2
theorem datas_map : ∀ ks : List NestedKey, NestedKey.datas ks = ks.map NestedKey.data
  | [] => rfl
  | k :: ks => by
    show NestedKey.data k :: NestedKey.datas ks = _
    rw [datas_map ks]
    rfl
theorem nums_of : ∀ {ks : List NestedKey}, ks.all isNum = true → ∃ ns : List Int, ks = ns.map NestedKey.num
  | [], _ => ⟨[], rfl⟩
  | k :: ks, h => by
    simp only [List.all_cons, Bool.and_eq_true] at h
    obtain ⟨ns, e⟩ := nums_of h.2
    cases k with
    | num i => exact ⟨i :: ns, by rw [e]; rfl⟩
    | _ => cases h.1
theorem le_num (a b : Int) : kLe (.num a) (.num b) = decide (a ≤ b) := by
  have z := congrFun (congrFun (PySem.W.dataLe_int (fun i : Int => i)) a) b
  exact z
section
variable {X : Cx}
theorem dn_ints {S : Addr → Prop} {H : Hp} : ∀ ns : List Int, DnAll X.prog X.w X.K S H (ns.map V.int) (ns.map fun i => PyData.int i)
  | [] => .nil
  | i :: ns => .cons (.int i) (dn_ints ns)
theorem vs_ints {S : Addr → Prop} {H : Hp} : ∀ {ns : List Int} {xs : List V}, DnAll X.prog X.w X.K S H xs (ns.map fun i => PyData.int i) → xs = ns.map V.int
  | [], _, h => by cases h; rfl
  | i :: ns, _, h => by
    cases h with
    | cons a b => cases a; rw [vs_ints b]; rfl
theorem tups_at {S : Addr → Prop} {H : Hp} : ∀ {xs : List V} {ds : List D} {ks : List NestedKey}, DnAll X.prog X.w X.K S H xs ds → keysOf ds = some ks → (∀ k ∈ ks, isTp k = true) →
    ∃ ps : List (Addr × NestedKey), xs = ps.map (fun p => V.ref p.1) ∧ ks = ps.map (·.2) ∧ ∀ p ∈ ps, Dn X.prog X.w X.K S H (.ref p.1) p.2.data ∧ keyOf p.2.data = some p.2
  | _, _, _, .nil, e, _ => by cases e; exact ⟨[], rfl, rfl, fun p h => by cases h⟩
  | _, _, _, .cons (v := v) (d := d) q t, e, h => by
    unfold keysOf at e
    split at e
    · rename_i k ks e1 e2
      cases e
      obtain ⟨ps, h1, h2, h3⟩ := tups_at t e2 fun k hk => h k (List.mem_cons_of_mem _ hk)
      have hk := h k List.mem_cons_self
      have ed := data_key e1
      have : ∃ a, v = V.ref a := by
        cases q with
        | tup t _ => exact ⟨_, rfl⟩
        | lst _ _ => cases e1
        | dic => cases e1
        | non => cases e1; cases hk
        | bl _ => cases e1
        | int _ => cases e1; cases hk
        | str _ => cases e1; cases hk
      obtain ⟨a, rfl⟩ := this
      refine ⟨(a, k) :: ps, by rw [h1]; rfl, by rw [h2]; rfl, fun p hp => ?_⟩
      rcases List.mem_cons.mp hp with rfl | hp
      · rw [ed]; exact ⟨q, e1⟩
      · exact h3 p hp
    · cases e
/-- sorted(set(xs)) -/
def rSS (X : Cx) : List V → Hp → VK → Prop := fun vs H Q => ∃ x, vs = [x] ∧ ((fun xs H Q => rSetI X.K X.w xs H Q ∨ rSetN X xs H Q) [x] H fun y H1 => (fun xs H Q => rSortedSet X.w xs H Q ∨ ∃ Rx, rSortN X Rx xs H Q) [y] H1 Q)
theorem serF_ss : Ser1F X (rSS X) srtSetD := fun F ρ σ H x d z Q R bx e k => by
  cases d with
  | list ds =>
    unfold srtSetD at e
    simp only at e
    split at e
    · rename_i ks ek
      split at e
      · rename_i ok
        cases e
        obtain ⟨a, xs, rfl, h1, h2⟩ := lst_of bx
        unfold setOk at ok
        simp only [Bool.and_eq_true, Bool.or_eq_true, decide_eq_true_eq] at ok
        obtain ⟨⟨⟨o1, o2⟩, o3⟩, o4⟩ := ok
        have eds := datas_keys ek
        rw [datas_map] at eds
        refine ⟨_, rfl, ?_⟩
        have fin : ∀ {H1 : Hp} {p : Addr} {ys : List V}, (∀ b o, H b = some o → H1 b = some o) → H1 p = none → DnAll X.prog X.w X.K (Al F ρ σ) H1 ys ((srtK ks).map NestedKey.data) → Q (.ref p) (upd H1 p (.lst ys)) := fun {H1 p ys} g hp hd =>
          new_lst (R.grow g) hp hd fun a H2 R2 g2 n2 ob => k a H2 R2 (fun b o e => g2 b o (g b o e)) (by
            cases e : H a with
            | none => rfl
            | some o => rw [g a o e] at n2; cases n2) ob
        rcases o4 with o4 | o4
        · obtain ⟨ns, rfl⟩ := nums_of o4
          rw [List.map_map] at eds
          rw [← eds] at h2
          have ev := vs_ints (ns := ns) h2
          rw [List.length_map] at o1
          refine .inl ⟨a, ns, rfl, by rw [← ev]; exact h1, o1, fun p c hp hc => .inl ⟨p, _, c, rfl, upd_same, by omega, fun ms q pw hm hl hq => fin (g_upd hp) hq ?_⟩⟩
          have es : srtK (ns.map NestedKey.num) = ms.map NestedKey.num := by
            have q1 : ∀ k, k ∈ ms.map NestedKey.num ↔ k ∈ ns.map NestedKey.num := fun k => by
              rw [List.mem_map, List.mem_map]
              constructor
              · rintro ⟨i, hi, rfl⟩
                exact ⟨i, by simpa using (hm i).mp hi, rfl⟩
              · rintro ⟨i, hi, rfl⟩
                exact ⟨i, (hm i).mpr (by simpa using hi), rfl⟩
            have q2 : (ms.map NestedKey.num).Nodup := List.pairwise_map.mpr (pw.imp fun {a b} h z => by
              have z2 : a = b := NestedKey.num.inj z
              omega)
            rw [← srtK_eq o2 q1 q2]
            refine List.mergeSort_of_pairwise (List.pairwise_map.mpr (pw.imp fun {a b} h => ?_))
            rw [le_num]
            exact decide_eq_true (Int.le_of_lt h)
          rw [es, List.map_map]
          exact dn_ints ms
        · have o5 : ∀ k ∈ ks, isTp k = true ∧ noTx k = true ∧ k.depth ≤ 8 := fun k hk => by
            have z := List.all_eq_true.mp o4 k hk
            simp only [Bool.and_eq_true] at z
            exact ⟨z.1.1, z.1.2, Nat.le_of_ble_eq_true z.2⟩
          obtain ⟨ps, rfl, rfl, hp⟩ := tups_at h2 ek fun k hk => (o5 k hk).1
          unfold srtOk at o3
          simp only [Bool.and_eq_true, List.all_eq_true, Bool.or_eq_true] at o3
          obtain ⟨⟨⟨s1, s2⟩, s3⟩, s4⟩ := o3
          have mds : ∀ p ∈ ps, p.2.data ∈ ds := fun p h => by
            rw [← eds]
            exact List.mem_map.mpr ⟨p.2, List.mem_map.mpr ⟨p, h, rfl⟩, rfl⟩
          refine .inr ⟨a, ps, rfl, h1, fun p h => ⟨keyAt_of (hp p h).1 (hp p h).2, (o5 p.2 (List.mem_map.mpr ⟨p, h, rfl⟩)).2.2, (o5 p.2 (List.mem_map.mpr ⟨p, h, rfl⟩)).2.1⟩, by rw [List.length_map] at o1; omega, fun q L hq sub cov nd => .inr ⟨fun x k => Dn X.prog X.w X.K (Al F ρ σ) (upd H q (SetNO X.w q L)) x k.data ∧ SeqAt.shaped k.data = true,
            q, L, rfl, upd_same, fun p h => ⟨⟨Dn.mono (fun b o s e => ⟨s, g_upd hq b o e⟩) (hp p (sub p h)).1, s4 _ (mds p (sub p h))⟩, (hp p (sub p h)).2⟩, fun x k h => Dn.dp (SeqAt.canLay_of_shaped h.2) h.1, fun p h p' h' => s2 _ (mds p (sub p h)) _ (mds p' (sub p' h')), fun p h => ⟨s4 _ (mds p (sub p h)), ?_⟩, fun ks2 ys r pm pr hr => fin (g_upd hq) hr ?_⟩⟩
          · rcases s3 with s3 | s3
            · exact s3 _ (mds p (sub p h))
            · have z := (s3 _ (mds p (sub p h))).2
              have z2 := (o5 p.2 (List.mem_map.mpr ⟨p, sub p h, rfl⟩)).1
              generalize p.2 = k at z z2
              cases k with
              | tup _ => cases z
              | _ => cases z2
          · rw [srtK_eq o2 (fun k => ?_) (pm.nodup_iff.mpr nd)] at pr
            · have go : ∀ {l : List NestedKey} {ys : List V}, Paired (fun x k => Dn X.prog X.w X.K (Al F ρ σ) (upd H q (SetNO X.w q L)) x k.data ∧ SeqAt.shaped k.data = true) ys l → DnAll X.prog X.w X.K (Al F ρ σ) (upd H q (SetNO X.w q L)) ys (l.map NestedKey.data) := by
                intro l ys h
                induction h with
                | nil => exact .nil
                | cons a _ ih => exact .cons a.1 ih
              exact go pr
            · rw [pm.mem_iff]
              constructor
              · intro h
                obtain ⟨p, h1, rfl⟩ := List.mem_map.mp h
                exact List.mem_map.mpr ⟨p, sub p h1, rfl⟩
              · intro h
                obtain ⟨p, h1, rfl⟩ := List.mem_map.mp h
                exact cov p h1
      · cases e
    · cases e
  | _ => cases e
end
end Rf
namespace Rf
open PySem PySem.Spec L2
theorem CallR.or {X : Cx} {v : Value} {r r' : List V → Hp → VK → Prop} (h : CallR X v r) (h' : CallR X v r') : CallR X v (fun xs H Q => r xs H Q ∨ r' xs H Q) := fun pins s σ H xs us Q I rv z => z.elim (h pins s σ H xs us Q I rv) (h' pins s σ H xs us Q I rv)
section
variable {X : Cx} {W : WX} {XR : XRep}
theorem t_ss {u t : Bool} {m : M D} : ∀ σ H Q, TF X W XR t (un1 srtSetD m) σ H Q → tCB (fun xs H Q => rSortedSet X.w xs H Q ∨ ∃ Rx, rSortN X Rx xs H Q) (tCons (tCB (fun xs H Q => rSetI X.K X.w xs H Q ∨ rSetN X xs H Q) (tCons (TG X W XR u t m) tNil)) tNil) σ H Q := fun σ H Q ⟨F, ρ, R, z⟩ =>
  ⟨F, ρ, R, Out.sat_mono (sat2 z) (fun d ρ1 k x H1 R1 K1 D1 => by
    obtain ⟨c, e1, k⟩ := satl k
    obtain ⟨x', e, q⟩ := serF_ss F ρ1 σ H1 x d c Q R1 D1.bd e1 fun v H' R' g n D' => k v H' R' ((K1.trans (Kp.grow (t := false) g)).up (by simp)) (K1.none n) D'
    cases e
    exact q) fun _ _ _ h => h⟩
theorem cr_ss (hc : X.calm = true) (hu : X.A.units + 80 < cLine) : CallR X (.builtin "sorted") (fun xs H Q => rSortedSet X.w xs H Q ∨ ∃ Rx, rSortN X Rx xs H Q) := CallR.or (cr_sortedSet hc) fun pins s σ H xs us Q I r ⟨Rx, h⟩ => cr_sortN hc hu pins s σ H xs us Q I r h
end
def mkSS {c : Cc} (f g : Str) (p p2 : Pos) {e : Expr} (x : RU c e) (pos2 pos : Pos) : Option (RF c (.Call (.Name f p) [.Call (.Name g p2) [e] [] pos2] [] pos)) :=
  if hs : noStar e = true then if h1 : bnB c f "sorted" = true then if h2 : bnB c g "set" = true then
    some ⟨x.t, un1 srtSetD x.m, fun X W XR ok => by
      have b1 := bnB_of h1 (v := .builtin "sorted") (by decide) ok
      have b2 := bnB_of h2 (v := .type "set") (by decide) ok
      have hu := ok.hu
      exact PEi (pe_callB (cr_ss ok.cl (by omega)) b1.gl b1.mg b1.bt (pa_cons (pe_callTy (CallR.or (cr_setI ok.cl) (cr_setN ok.cl (by omega))) b2.gl b2.mg b2.bt (pa_cons (x.p X W XR ok) pa_nil (star1 hs)) b2.nn b2.nd (star1 hs)) pa_nil (star1 rfl)) b1.nn b1.nd (star1 rfl) rfl) t_ss⟩
  else none else none else none
end Rf
end
section
set_option Elab.async false
set_option linter.all false
set_option maxRecDepth 100000
set_option maxHeartbeats 2000000
/-! Rf, part O: expressions from the text. -/
namespace Rf
open PySem PySem.Spec L2
/-! ### and, or -/
structure RB (c : Cc) (e : Expr) where
  t : Bool
  m : M Bool
  p : ∀ X W XR, Ok c X W XR → PW X e (TTs X W XR t m)
structure R0 (c : Cc) (e : Expr) where
  t : Bool
  m : M D
  p : ∀ X W XR, Ok c X W XR → PE X e (TG X W XR false t m)
def RU.z {c : Cc} {e : Expr} (x : RU c e) : Option (R0 c e) := guardO (!x.u) fun h => some ⟨x.t, x.m, fun X W XR ok => by
  have q := x.p X W XR ok
  rw [show x.u = false by simpa using h] at q
  exact q⟩
def R0.u {c : Cc} {e : Expr} (x : R0 c e) : RU c e := ⟨false, x.t, x.m, x.p⟩
theorem not_of {b : Bool} (h : (!b) = true) : b = false := by simpa using h
def andsT (d : Den) (c : Cc) (pos : Pos) : (es : List Expr) → Option (RB c (.BoolOp .And es pos))
  | [] => none
  | [a] => do
    let x ← d.t c a
    some ⟨x.t, x.m, fun X W XR ok => w_and1 (x.p X W XR ok)⟩
  | a :: b :: r => do
    let x ← d.t c a
    let y ← andsT d c pos (b :: r)
    some ⟨x.t || y.t, andT x.m y.m, fun X W XR ok => w_and (x.p X W XR ok) (y.p X W XR ok)⟩
def orsT (d : Den) (c : Cc) (pos : Pos) : (es : List Expr) → Option (RB c (.BoolOp .Or es pos))
  | [] => none
  | [a] => do
    let x ← d.t c a
    some ⟨x.t, x.m, fun X W XR ok => w_or1 (x.p X W XR ok)⟩
  | a :: b :: r => do
    let x ← d.t c a
    let y ← orsT d c pos (b :: r)
    some ⟨x.t || y.t, orT x.m y.m, fun X W XR ok => w_or (x.p X W XR ok) (y.p X W XR ok)⟩
def andsU (d : Den) (c : Cc) (pos : Pos) : (es : List Expr) → Option (R0 c (.BoolOp .And es pos))
  | [] => none
  | [a] => do
    let x ← (← d.u c a false).z
    some ⟨x.t, x.m, fun X W XR ok => e_one (x.p X W XR ok)⟩
  | a :: b :: r => do
    let x ← (← d.u c a false).z
    let y ← andsU d c pos (b :: r)
    some ⟨x.t || y.t, andM x.m y.m, fun X W XR ok => e_and (x.p X W XR ok) (y.p X W XR ok)⟩
def orsU (d : Den) (c : Cc) (pos : Pos) : (es : List Expr) → Option (R0 c (.BoolOp .Or es pos))
  | [] => none
  | [a] => do
    let x ← (← d.u c a false).z
    some ⟨x.t, x.m, fun X W XR ok => e_one (x.p X W XR ok)⟩
  | a :: b :: r => do
    let x ← (← d.u c a false).z
    let y ← orsU d c pos (b :: r)
    some ⟨x.t || y.t, orM x.m y.m, fun X W XR ok => e_or (x.p X W XR ok) (y.p X W XR ok)⟩
def orF (d : Den) (c : Cc) (pos : Pos) : (es : List Expr) → Option (RF c (.BoolOp .Or es pos))
  | [] => none
  | [a] => do
    let x ← d.f c a
    some ⟨x.t, x.m, fun X W XR ok => f_one (x.p X W XR ok)⟩
  | a :: b :: r => do
    let x ← d.f c a
    let y ← orF d c pos (b :: r)
    some ⟨x.t || y.t, orM x.m y.m, fun X W XR ok => f_or (x.p X W XR ok) (y.p X W XR ok)⟩
/-! ### chains -/
def mkChain {c : Cc} {a b e : Expr} (op op' : CmpOp) (pos : Pos) (x : RU c a) (y : RU c b) (z : RU c e) : Option (RU c (.Compare a [op, op'] [b, e] pos)) := do
  let o ← cmp2 op
  let o' ← cmp2 op'
  guardO (!(x.u && x.t)) fun h => guardO (noSet e) fun he => guardO (!y.t) fun hy => guardO (!z.t) fun hz => some ⟨false, x.t, chM o.f o'.f x.m y.m z.m, fun X W XR ok => by
    have q1 := y.p X W XR ok
    have q2 := z.p X W XR ok
    rw [show y.t = false by simpa using hy] at q1
    rw [show z.t = false by simpa using hz] at q2
    exact PEi (pe_chain (o.o X ok.hu) (o'.o X ok.hu) (x.p X W XR ok) q1 q2 (noSet_behind he)) (t_chain (not_of h) (fun _ _ _ z => z) (fun _ _ _ z => z) (fun _ _ _ z => z) (o.s X) (o'.s X))⟩
theorem p_chain {X : Cx} {W : WX} {XR : XRep} {a b e : Expr} {op op' : CmpOp} {pos : Pos} {r r' : R2} {ta tb tc : TE} {t : Bool} {m : M D} (ho : OpR X (compareOp op) r) (ho' : OpR X (compareOp op') r') (ha : PE X a ta) (hb : PE X b tb) (hc : PE X e tc) (hm : lastMarks [op, op'] [b, e] = false)
    (h : ∀ σ H Q, TG X W XR false t m σ H Q → tChain r r' ta tb tc σ H Q) : PT X (.Compare a [op, op'] [b, e] pos) (TTs X W XR t (tstM m)) := PTi (pt_chain ho ho' ha hb hc hm) fun σ H Q ⟨F, ρ, R, z⟩ =>
  h σ H _ ⟨F, ρ, R, Out.sat_mono (sat2 z) (fun d ρ1 k x H1 R1 K1 D1 => by
    obtain ⟨c, e1, k⟩ := satl k
    exact ⟨c, bl_of (D1.bd : Bd X.prog X.w X.K _ _ _ _) e1, k H1 R1 K1⟩) fun _ _ _ h => h⟩
def mkChainT {c : Cc} {a b e : Expr} (op op' : CmpOp) (pos : Pos) (x : RU c a) (y : RU c b) (z : RU c e) : Option (RT c (.Compare a [op, op'] [b, e] pos)) := do
  let o ← cmp2 op
  let o' ← cmp2 op'
  guardO (!(x.u && x.t)) fun h => guardO (noSet e) fun he => guardO (!y.t) fun hy => guardO (!z.t) fun hz => some ⟨x.t, tstM (chM o.f o'.f x.m y.m z.m), fun X W XR ok => by
    have q1 := y.p X W XR ok
    have q2 := z.p X W XR ok
    rw [show y.t = false by simpa using hy] at q1
    rw [show z.t = false by simpa using hz] at q2
    exact p_chain (o.o X ok.hu) (o'.o X ok.hu) (x.p X W XR ok) q1 q2 (noSet_behind he) (t_chain (not_of h) (fun _ _ _ z => z) (fun _ _ _ z => z) (fun _ _ _ z => z) (o.s X) (o'.s X))⟩
/-! ### sources -/
/-- what is walked: a list, a tuple, the keys of a dict -/
def itemsU : D → Option (List D)
  | .dict kvs => some (kvs.map (·.1))
  | d => itemsD d
def itsU (m : M D) : M (List D) := M.bind m fun d => M.lift (itemsU d)
theorem kv_get {X : Cx} {S : Addr → Prop} {H : Hp} : ∀ {xs : List (NestedKey × Addr × Value)} {kvs : List (D × D)} {i : Nat} {e : NestedKey × Addr × Value}, DnKv X.prog X.w X.K S H xs kvs → xs[i]? = some e → ∃ kv, kvs[i]? = some kv ∧ Dn X.prog X.w X.K S H (.ref e.2.1) kv.1
  | _, _, _, _, .nil, h => by simp at h
  | _, _, 0, _, .cons _ _ q _ _ _, h => by
    simp only [List.getElem?_cons_zero, Option.some.injEq] at h
    subst h
    exact ⟨_, rfl, q⟩
  | _, _, i + 1, _, .cons _ _ _ _ _ t, h => by
    obtain ⟨kv, h1, h2⟩ := kv_get (i := i) t (by simpa using h)
    exact ⟨kv, by simpa using h1, h2⟩
theorem kv_mono {X : Cx} {S S' : Addr → Prop} {H H' : Hp} {xs : List (NestedKey × Addr × Value)} {kvs : List (D × D)} (h : ∀ a o, S a → H a = some o → S' a ∧ H' a = some o) (x : DnKv X.prog X.w X.K S H xs kvs) : DnKv X.prog X.w X.K S' H' xs kvs := DnKv.mono h x
theorem i_valU {X : Cx} {W : WX} {XR : XRep} {tg e : Expr} {u t : Bool} {m : M D} (h : PE X e (TG X W XR u t m)) : PI X tg e (ti (X := X) W XR u t (itsU m)) := by
  refine ⟨fun p s σ H R I ⟨F, ρ, Rl, z⟩ => ?_⟩
  have z' := Out.sat_bind.mp z
  by_cases hd : ∃ kvs ρ1, m ρ = .ok (.dict kvs) ρ1
  · obtain ⟨kvs, ρ1, e1⟩ := hd
    rw [e1] at z'
    have k : ∀ J H', Rel X.prog X.w X.K F ρ1 σ H' → Kp t ρ ρ1 σ H H' → Wk X (Al F ρ1 σ) (TSo u F ρ1 σ) H' J (kvs.map (·.1)) → R J H' := z'
    refine (pi_dic h).run p s σ H R I ⟨F, ρ, Rl, ?_⟩
    rw [e1]
    intro v H1 R1 K1 D1
    obtain ⟨a, o, xs, rfl, dc, dn⟩ := dc_of D1.bd
    refine ⟨a, o, xs, rfl, dc, k _ H1 R1 K1 fun S' H' hS hT => ?_⟩
    have keep : H' a = some (dictO X.prog X.w a o xs) := by
      cases u with
      | true => exact hT _ _ (.inl rfl) dc.e
      | false =>
        have D1' : Dn X.prog X.w X.K (Al F ρ1 σ) H1 (.ref a) (.dict kvs) := D1
        cases D1' with
        | dic s e _ _ _ _ => exact (hS _ _ s dc.e).2
    have dn' := kv_mono hS dn
    have ln := kv_len dn
    simp only [List.length_map]
    refine ⟨fun i hi => ⟨keep, by omega⟩, ⟨keep, by omega⟩, fun i x H'' hi y => ?_⟩
    obtain ⟨rfl, e2, y1, rfl⟩ := y
    refine ⟨fun _ _ z => z, fun S'' k1 _ => ?_⟩
    obtain ⟨kv, g1, g2⟩ := kv_get dn' y1
    exact ⟨kv.1, by simp [g1], Dn.mono (fun b o s e => ⟨k1 b s, e⟩) g2⟩
  · refine (i_val (W := W) (XR := XR) h).run p s σ H R I ⟨F, ρ, Rl, ?_⟩
    have e2 : itsM m ρ = itsU m ρ := by
      unfold itsM itsU M.bind
      cases e1 : m ρ with
      | ok d ρ1 =>
        cases d with
        | dict kvs => exact absurd ⟨kvs, ρ1, e1⟩ hd
        | _ => rfl
      | ex c ds ρ1 => rfl
      | bad => rfl
    rw [e2]
    exact z
theorem bnB_eq {c : Cc} {f y : Str} (h : bnB c f y = true) : f = y := by
  unfold bnB at h
  simp only [Bool.and_eq_true, decide_eq_true_eq] at h
  exact h.1.1
def srcPair (d : Den) (c : Cc) (tg : Expr) (f : Str) (p : Pos) (es : List Expr) (pos : Pos) : Option (RI c tg (.Call (.Name f p) es [] pos)) := match tg, es with
  | .Tuple elts kk tpos, [a] => guardO (noStar a) fun hs => guardO (bnB c f "enumerate") fun h => do
      let r ← denArgs d c [a]
      some ⟨false, r.t, overM enumDs r.m, fun X W XR ok => by
        have b := bnB_of h (v := .type "enumerate") (by decide) ok
        have hf := bnB_eq h
        subst hf
        exact i_enum b.gl b.mg (r.p X W XR ok) (star1 hs)⟩
  | .Tuple elts kk tpos, [a, b] => guardO (noStar a) fun hs => guardO (noStar b) fun hs2 => guardO (bnB c f "zip") fun h => do
      let r ← denArgs d c [a, b]
      some ⟨false, r.t, overM zipDs r.m, fun X W XR ok => by
        have b := bnB_of h (v := .type "zip") (by decide) ok
        have hf := bnB_eq h
        subst hf
        exact i_zip b.gl b.mg (r.p X W XR ok) (star1 hs) (by rw [star1 hs2]; rfl)⟩
  | _, _ => none
def srcRange (d : Den) (c : Cc) (tg : Expr) (f : Str) (p : Pos) (es : List Expr) (pos : Pos) : Option (RI c tg (.Call (.Name f p) es [] pos)) := match es with
  | [a] => guardO (noStar a) fun hs => guardO (bnB c f "range") fun h => do
      let r ← denArgs d c [a]
      some ⟨false, r.t, overM rng1D r.m, fun X W XR ok => by
        have b := bnB_of h (v := .type "range") (by decide) ok
        have hf := bnB_eq h
        subst hf
        exact i_rng1 b.gl b.mg (r.p X W XR ok) (star1 hs)⟩
  | [a, b] => guardO (noStar a) fun hs => guardO (noStar b) fun hs2 => guardO (bnB c f "range") fun h => do
      let r ← denArgs d c [a, b]
      some ⟨false, r.t, overM rng2D r.m, fun X W XR ok => by
        have b := bnB_of h (v := .type "range") (by decide) ok
        have hf := bnB_eq h
        subst hf
        exact i_rng2 b.gl b.mg (r.p X W XR ok) (by rw [star1 hs, star1 hs2]; rfl) (by rw [star1 hs2]; rfl)⟩
  | _ => none
def srcVal (d : Den) (c : Cc) (tg e : Expr) (rd : Bool) : Option (RI c tg e) :=
  let val : Option (RI c tg e) := do
    let x ← d.u c e rd
    some ⟨x.u, x.t, itsU x.m, fun X W XR ok => i_valU (x.p X W XR ok)⟩
  if rd = true then val else match slotOf c e with
  | some ⟨i, h⟩ => some ⟨false, false, itsM (wvM i), fun X W XR ok => i_var (h.2 X W XR ok)⟩
  | none => val

/-! ### subscripts, methods -/
def denO (d : Den) (c : Cc) : (e : Option Expr) → Option (Σ' (t : Bool) (m : M (Option Int)), ∀ X W XR, Ok c X W XR → PO X e (TOs X W XR t m))
  | none => some ⟨false, noPt, fun X W XR ok => o_none⟩
  | some e => do
    let x ← d.u c e true
    some ⟨x.t, somePt x.m, fun X W XR ok => o_some (x.p X W XR ok)⟩
def isNegOne : Expr → Bool
  | .UnaryOp .USub (.Constant (.int 1) _ _) _ => true
  | _ => false
def ixWO (c : Cc) (a b : Expr) (pos : Pos) (y : RU c b) : Option (RU c (.Subscript a b pos)) := match y.t with
  | false => none
  | true => match slotOf c a with
    | some ⟨i, h⟩ => guardO (noSlice b) fun hn => some ⟨false, y.t, bin ixU (wvM i) y.m, fun X W XR ok => e_ixW (by have := ok.hu; omega) (noSlice_plain hn) (h.2 X W XR ok) (y.p X W XR ok)⟩
    | none => none
def mkSub (d : Den) (c : Cc) (a b : Expr) (pos : Pos) : Option (RU c (.Subscript a b pos)) := match b with
  | .Slice none none (some (.UnaryOp .USub (.Constant (.int 1) k p1) p2)) p3 => do
    let x ← d.u c a true
    some ⟨false, x.t, un1 rvD x.m, fun X W XR ok => e_rv (x.p X W XR ok)⟩
  | .Slice lo hi none p2 => do
    let x ← d.u c a true
    let ⟨s, l, hl⟩ ← denO d c lo
    let ⟨u, h, hh⟩ ← denO d c hi
    guardO (!(x.u && (s || u))) fun hv => some ⟨false, x.t || (s || u), slM slD x.m l h, fun X W XR ok => e_sl (x.p X W XR ok) (hl X W XR ok) (hh X W XR ok) (not_of hv)⟩
  | b => do
    let y ← d.u c b true
    (ixWO c a b pos y).orElse fun _ => do
    let x ← d.u c a (!y.t)
    guardO (!(x.u && y.t)) fun hv => guardO (noSlice b) fun hn => some ⟨false, x.t || y.t, bin ixU x.m y.m, fun X W XR ok => e_ixU (by have := ok.hu; omega) (not_of hv) (noSlice_plain hn) (x.p X W XR ok) (y.p X W XR ok)⟩
def mkSubF (d : Den) (c : Cc) (a b : Expr) (pos : Pos) : Option (RF c (.Subscript a b pos)) := match b with
  | .Slice none none (some (.UnaryOp .USub (.Constant (.int 1) k p1) p2)) p3 => do
    let x ← d.u c a true
    some ⟨x.t, un1 (fun d => match d with | .list ds => some (.list ds.reverse) | _ => none) x.m, fun X W XR ok => f_rv (x.p X W XR ok)⟩
  | .Slice lo hi none p2 => do
    let x ← d.u c a true
    let ⟨s, l, hl⟩ ← denO d c lo
    let ⟨u, h, hh⟩ ← denO d c hi
    guardO (!(x.u && (s || u))) fun hv => some ⟨x.t || (s || u), slM slL x.m l h, fun X W XR ok => f_slL (x.p X W XR ok) (hl X W XR ok) (hh X W XR ok) (not_of hv)⟩
  | _ => none
/-- no call hides what the object is -/
def plainOb : Expr → Bool
  | .Name _ _ => true
  | _ => false
theorem plainOb_of {o : Expr} (h : plainOb o = true) (a : Str) {env : PySem.Env} {whole : Sem Value} : attributeBase o a env whole = whole := by
  cases o <;> first | rfl | cases h
theorem few1 {e : Expr} {env : PySem.Env} {pos : Pos} (h : noStar e = true) : ((backTo pos (starEach [e] env)).all (fun x => !x.1) && (backToKw pos (keywordEach [] env)).all (fun x => x.1.isSome)
      && decide (([e] : List Expr).length + ([] : List Keyword).length + (if ([] : List Keyword).isEmpty then 0 else 1) < 30)) = true := by
  rw [star1 h]
  rfl
theorem few2 {e f : Expr} {env : PySem.Env} {pos : Pos} (h : noStar e = true) (h2 : noStar f = true) : ((backTo pos (starEach [e, f] env)).all (fun x => !x.1) && (backToKw pos (keywordEach [] env)).all (fun x => x.1.isSome)
      && decide (([e, f] : List Expr).length + ([] : List Keyword).length + (if ([] : List Keyword).isEmpty then 0 else 1) < 30)) = true := by
  rw [star1 h, star1 h2]
  rfl
def mkMeth (d : Den) (c : Cc) (ob : Expr) (name : Str) (apos : Pos) (es : List Expr) (cpos : Pos) : Option (RU c (.Call (.Attribute ob name apos) es [] cpos)) := match es with
  | [e] => guardO (plainOb ob) fun hp => guardO (noStar e) fun hs => guardO (apos.endLine == cpos.line) fun hl => do
    let ⟨i, hi⟩ ← slotOf c ob
    if h : name = "append" then do
      let x ← (← d.u c e false).z
      some ⟨false, true, appM i x.m, fun X W XR ok => by
        subst h
        exact PEi (pe_bm PySem.F.plainAttrs_list PySem.F.slot_list_append PySem.F.type_list_append mt_append (hi.2 X W XR ok) (pa_cons (x.p X W XR ok) pa_nil (star1 hs)) (plainOb_of hp _) (few1 hs) hl (star1 hs) rfl) (t_app fun _ _ _ z => z)⟩
    else if h : name = "extend" then do
      let x ← d.f c e
      some ⟨false, true, extM i x.m, fun X W XR ok => by
        subst h
        exact PEi (pe_bm PySem.F.plainAttrs_list PySem.F.slot_list_extend PySem.F.type_list_extend mt_extend (hi.2 X W XR ok) (pa_cons (x.p X W XR ok) pa_nil (star1 hs)) (plainOb_of hp _) (few1 hs) hl (star1 hs) rfl) (t_ext fun _ _ _ z => z)⟩
    else if h : name = "pop" then do
      let x ← (← d.u c e false).z
      some ⟨false, true, popM i x.m, fun X W XR ok => by
        subst h
        exact PEi (pe_bm PySem.F.plainAttrs_list PySem.F.slot_list_pop PySem.F.type_list_pop mt_popAt (hi.2 X W XR ok) (pa_cons (x.p X W XR ok) pa_nil (star1 hs)) (plainOb_of hp _) (few1 hs) hl (star1 hs) rfl) (t_pop fun _ _ _ z => z)⟩
    else none
  | [e, f] => guardO (plainOb ob) fun hp => guardO (noStar e) fun hs => guardO (noStar f) fun hs2 => guardO (apos.endLine == cpos.line) fun hl =>
    if h : name = "get" then do
      let o ← d.u c ob true
      let r ← denArgs d c [e, f]
      guardO (!r.t) fun ht => some ⟨false, o.t, getM o.m r.m, fun X W XR ok => by
        subst h
        have q := r.p X W XR ok
        rw [not_of ht] at q
        exact e_getDic (by have := ok.hu; omega) (o.p X W XR ok) q (plainOb_of hp _) (few2 hs hs2) hl (star1 hs) (by rw [star1 hs2]; rfl)⟩
    else none
  | _ => none

/-! ### all of it -/
/-- sorted(set(..)) -/
def ssA (d : Den) (c : Cc) (f : Str) (p : Pos) (e : Expr) (pos : Pos) : Option (RF c (.Call (.Name f p) [e] [] pos)) := match e with
  | .Call (.Name g p2) [a] [] pos2 => match bnB c f "sorted" && bnB c g "set" with
    | true => match d.u c a true with
      | some x => mkSS f g p p2 x pos2 pos
      | none => none
    | false => none
  | _ => none
def denU (d : Den) (c : Cc) (e : Expr) (rd : Bool) : Option (RU c e) := match e with
  | .Name x pos => mkName c x pos rd
  | .Constant k j pos => mkConst c k j pos
  | .BinOp a op b pos => do
    let y ← d.u c b true
    let x ← d.u c a (!y.t)
    mkBin op pos x y
  | .UnaryOp .Not a pos => do
    let x ← d.u c a true
    some ⟨false, x.t, notM x.m, fun X W XR ok => e_not (x.p X W XR ok)⟩
  | .UnaryOp .USub a pos => do
    let x ← d.u c a true
    some ⟨false, x.t, negM x.m, fun X W XR ok => e_neg (x.p X W XR ok)⟩
  | .BoolOp .And es pos => (andsU d c pos es).map R0.u
  | .BoolOp .Or es pos => (orsU d c pos es).map R0.u
  | .Compare a [op] [b] pos => do
    let y ← d.u c b true
    let x ← d.u c a (!y.t)
    mkCmp op pos x y
  | .Compare a [op, op'] [b, e] pos => do
    let x ← d.u c a true
    let y ← d.u c b true
    let z ← d.u c e true
    mkChain op op' pos x y z
  | .IfExp q a b pos => do
    let t ← d.t c q
    let x ← (← d.u c a false).z
    let y ← (← d.u c b false).z
    some ⟨false, t.t || (x.t || y.t), iteM t.m x.m y.m, fun X W XR ok => e_ite (t.p X W XR ok) (x.p X W XR ok) (y.p X W XR ok)⟩
  | .Tuple es k pos => do
    let r ← denArgs d c es
    some ⟨false, r.t, tupM r.m, fun X W XR ok => e_tup (r.p X W XR ok)⟩
  | .List es pos => do
    let r ← denArgs d c es
    some ⟨false, r.t, lstM r.m, fun X W XR ok => e_ff (e_lst (r.p X W XR ok))⟩
  | .ListComp elt gens scope pos => (mkComp d c elt gens scope pos).map asU
  | .Subscript a b pos => mkSub d c a b pos
  | .Dict [] [] pos => some ⟨false, false, M.pure (.dict []), fun X W XR ok => e_ff e_dnew⟩
  | .Call (.Name f p) (e :: es) [] pos => match es with
    | [] => (match d.u c e true with
        | some x => (call1 f p x pos).orElse fun _ => (call1F f p x pos).map asU
        | none => none).orElse fun _ => (callDef d c f p e [] pos).orElse fun _ => (ssA d c f p e pos).map asU
    | [b] => (match d.u c e true with
        | some x => (callIs f p x b pos).orElse fun _ => match d.u c b true with
          | some y => call2 f p x y pos
          | none => none
        | none => none).orElse fun _ => callDef d c f p e [b] pos
    | es => callDef d c f p e es pos
  | .Call (.Attribute ob name apos) es [] cpos => mkMeth d c ob name apos es cpos
  | _ => none
def oneF (d : Den) (c : Cc) (f : Str) (p : Pos) (e : Expr) (pos : Pos) : Option (RF c (.Call (.Name f p) [e] [] pos)) := (match d.u c e true with
  | some x => call1F f p x pos
  | none => none).orElse fun _ => callDefF d c f p e [] pos
def denF (d : Den) (c : Cc) (e : Expr) : Option (RF c e) := match e with
  | .List es pos => do
    let r ← denArgs d c es
    some ⟨r.t, lstM r.m, fun X W XR ok => e_lst (r.p X W XR ok)⟩
  | .ListComp elt gens scope pos => mkComp d c elt gens scope pos
  | .BinOp a .Add b pos => do
    let y ← d.u c b true
    let x ← d.u c a (!y.t)
    mkBinF pos x y
  | .BoolOp .Or es pos => orF d c pos es
  | .IfExp q a b pos => do
    let t ← d.t c q
    let x ← d.f c a
    let y ← d.f c b
    some ⟨t.t || (x.t || y.t), iteM t.m x.m y.m, fun X W XR ok => f_ite (t.p X W XR ok) (x.p X W XR ok) (y.p X W XR ok)⟩
  | .Subscript a b pos => mkSubF d c a b pos
  | .Dict [] [] pos => some ⟨false, M.pure (.dict []), fun X W XR ok => e_dnew⟩
  | .Call (.Name f p) (e :: es) [] pos => match es with
    | [] => (ssA d c f p e pos).orElse fun _ => oneF d c f p e pos
    | es => callDefF d c f p e es pos
  | _ => none
def denT (d : Den) (c : Cc) (e : Expr) : Option (RT c e) := match e with
  | .UnaryOp .Not a pos => do
    let x ← d.t c a
    some ⟨x.t, notT x.m, fun X W XR ok => p_not (x.p X W XR ok)⟩
  | .BoolOp .And es pos => (andsT d c pos es).map fun r => ⟨r.t, r.m, fun X W XR ok => (r.p X W XR ok).pt⟩
  | .BoolOp .Or es pos => (orsT d c pos es).map fun r => ⟨r.t, r.m, fun X W XR ok => (r.p X W XR ok).pt⟩
  | .Compare a [op] [b] pos => do
    let y ← d.u c b true
    let x ← d.u c a (!y.t)
    mkCmpT op pos x y
  | .Compare a [op, op'] [b, e] pos => do
    let x ← d.u c a true
    let y ← d.u c b true
    let z ← d.u c e true
    mkChainT op op' pos x y z
  | e => do
    let x ← d.u c e true
    guardO (plainTest e) fun h => some ⟨x.t, truM x.m, fun X W XR ok => p_tru (x.p X W XR ok) fun whole => plainTest_of h whole⟩
def denI (d : Den) (c : Cc) (tg e : Expr) (rd : Bool) : Option (RI c tg e) := match e with
  | .Call (.Name f p) es [] pos => (srcRange d c tg f p es pos).orElse fun _ => (srcPair d c tg f p es pos).orElse fun _ => srcVal d c tg (.Call (.Name f p) es [] pos) rd
  | e => srcVal d c tg e rd
def den : Nat → Den
  | 0 => ⟨fun _ _ _ => none, fun _ _ => none, fun _ _ => none, fun _ _ _ _ => none⟩
  | n + 1 => ⟨denU (den n), denF (den n), denT (den n), denI (den n)⟩
end Rf
end
section
set_option Elab.async false
set_option linter.all false
set_option maxRecDepth 100000
set_option maxHeartbeats 2000000
namespace Rf
open PySem PySem.Spec L2
def isStar : Expr → Bool
  | .Starred _ _ => true
  | _ => false
def lineOf (ts : List Expr) : Nat := (ts.head?.map (·.pos.line)).getD 0
def locNames (sc : Scope) (ts : List Expr) : List Str := ts.filterMap fun
    | .Name id pos => if sc.names.lookup id == some .local && pos.line == lineOf ts then some id else none
    | _ => none
def swOf (sc : Scope) (ts vs : List Expr) : Option (Option (List Str)) :=
  if !(ts.length == 2 || ts.length == 3) || vs.length != ts.length then some none
  else if (vs.any fun | .Starred .. => true | _ => false) then some none
  else if (locNames sc ts).length != ts.length || (locNames sc ts).eraseDups.length != (locNames sc ts).length then some none
  else if vs.all (foldedForSure 8) then some none
  else if vs.all (constantsAlone 8) then none
  else some (some (locNames sc ts))
theorem bk_fun {env : PySem.Env} (h : env.scope.kind = .function) : env.blockKind = .function := by unfold PySem.Env.blockKind; rw [h]; rfl
theorem sw_of {env : PySem.Env} {ts vs : List Expr} {k k2 : Nat} {pos pos2 : Pos} {r : Option (List Str)} (hk : env.scope.kind = .function) (h : swOf env.scope ts vs = some r) : swappedStores [.Tuple ts k pos] (.Tuple vs k2 pos2) env = pure r := by
  unfold swappedStores
  have hb := bk_fun hk
  simp only [hb]
  unfold swOf at h
  split at h
  · rename_i h1
    cases h
    have : (!(ts.length == 2 || ts.length == 3) || vs.length != ts.length || ScopeKind.function != ScopeKind.function) = true := by
      rw [h1]; rfl
    rw [if_pos this]
    try rfl
  · rename_i h1
    have : ¬ (!(ts.length == 2 || ts.length == 3) || vs.length != ts.length || ScopeKind.function != ScopeKind.function) = true := by
      intro z
      apply h1
      simpa using z
    rw [if_neg this]
    try simp only [pure_bind]
    change (if (vs.any fun | .Starred .. => true | _ => false) = true then pure none else if ((locNames env.scope ts).length != ts.length || (locNames env.scope ts).eraseDups.length != (locNames env.scope ts).length) = true then pure none
      else if vs.all (foldedForSure 8) = true then pure none else if vs.all (constantsAlone 8) = true then (do unsupported "assign.tuple-of-constant-expressions:order-of-the-stores"; pure (some (locNames env.scope ts))) else pure (some (locNames env.scope ts))) = (pure r : Sem (Option (List Str)))
    split at h
    · rename_i h2
      cases h
      rw [if_pos h2]
    · rename_i h2
      rw [if_neg h2]
      split at h
      · rename_i h3
        cases h
        rw [if_pos h3]
      · rename_i h3
        rw [if_neg h3]
        split at h
        · rename_i h4
          cases h
          rw [if_pos h4]
        · rename_i h4
          rw [if_neg h4]
          split at h
          · cases h
          · rename_i h5
            cases h
            rw [if_neg h5]
end Rf
end
section
set_option Elab.async false
set_option linter.all false
set_option maxRecDepth 100000
set_option maxHeartbeats 2000000
/-! Rf, part P: statements from the text. -/
namespace Rf
open PySem PySem.Spec L2
section
variable {X : Cx} {W : WX} {XR : XRep} {fr : Bool}
/-! ### o[k] = v of a list or a dict -/
def PSet.or {X : Cx} {t u : TSet} (h : PSet X t) (k : PSet X u) : PSet X (fun o i v H Q => t o i v H Q ∨ u o i v H Q) := fun pins s σ H o i v ov iv uu Q I r1 r2 r3 z => z.elim (h pins s σ H o i v ov iv uu Q I r1 r2 r3) (k pins s σ H o i v ov iv uu Q I r1 r2 r3)
def setXM (i : Nat) (mk m : M D) : MS := M.bind m fun d => fun ρ => match (ρ i).val with
  | some (.list _) => (M.bind mk fun k => fun ρ => match ownL ρ i, k with
    | some ds, .int j => match ixN ds.length j with
      | some n => .ok .nx (upM ρ i (.list (ds.set n d)))
      | none => .bad
    | _, _ => .bad) ρ
  | some (.dict _) => (M.bind mk fun k => fun ρ => match ownD ρ i, keyT k with
    | some kvs, some nk => if szOk (kvs.length + 1) then .ok .nx (upM ρ i (.dict (dPut kvs nk k d))) else .bad
    | _, _ => .bad) ρ
  | _ => .bad
theorem s_setX {te tx : TE} {t s : Bool} {i : Nat} {mk m : M D} (h : ∀ σ H Q, TG X W XR false t m σ H Q → te σ H Q) (hi : ∀ σ H Q, TG X W XR false s mk σ H Q → tx σ H Q) :
    ∀ En σ H, TSr X W XR fr (setXM i mk m) En σ H → tAsg te (gSub (tVar i) tx (fun o k v H Q => rSetL o k v H Q ∨ rSetDic X o k v H Q)) En σ H := fun En σ H ⟨F, ρ, R, z⟩ => by
  refine h _ _ _ ⟨F, ρ, R, Out.sat_mono (sat2 z) (fun d ρ1 k v H1 R1 K1 D1 => ?_) fun _ _ _ h => Xw_of h⟩
  cases e0 : (ρ1 i).val with
  | none => simp only [e0] at k; exact k.elim
  | some c0 =>
    cases c0 with
    | list l0 =>
      simp only [e0] at k
      obtain ⟨a, h1, _, _⟩ := R1.there e0
      refine ⟨_, h1, hi _ _ _ ⟨F, ρ1, R1, Out.sat_mono (sat2 k) (fun j ρ2 k w H2 R2 K2 D2 => ?_) fun _ _ _ h => Xw_of h⟩⟩
      have Dv := Dn.kp K2 D1
      cases e1 : ownL ρ2 i with
      | none => simp only [e1] at k; exact k.elim
      | some es =>
        simp only [e1] at k
        cases j with
        | int j =>
          simp only at k
          cases e2 : ixN es.length j with
          | none => rw [e2] at k; exact k.elim
          | some n =>
            rw [e2] at k
            cases D2
            obtain ⟨b, ys, q1, q2, q3, q4⟩ := ownL_of R2 e1
            rw [h1] at q1
            cases q1
            obtain ⟨R3, K3⟩ := R2.writeL q4 h1 (q3.set Dv n)
            exact .inl ⟨a, ys, j, n, rfl, rfl, q2, by rw [q3.length]; exact e2, k σ _ R3 ((K1.dk.trans K2.dk).trans K3.dk)⟩
        | _ => exact k.elim
    | dict l0 =>
      simp only [e0] at k
      obtain ⟨a, h1, _, _⟩ := R1.there e0
      refine ⟨_, h1, hi _ _ _ ⟨F, ρ1, R1, Out.sat_mono (sat2 k) (fun kd ρ2 k w H2 R2 K2 D2 => ?_) fun _ _ _ h => Xw_of h⟩⟩
      have Dv := Dn.kp K2 D1
      cases e1 : ownD ρ2 i with
      | none => simp only [e1] at k; exact k.elim
      | some kvs =>
        cases e2 : keyT kd with
        | none => simp only [e1, e2] at k; exact k.elim
        | some nk =>
          simp only [e1, e2] at k
          split at k
          · rename_i hz
            obtain ⟨b, xs, o, q1, dc, dn, q4⟩ := ownD_of R2 e1
            rw [h1] at q1
            cases q1
            obtain ⟨kb, rfl, q, e3, e4⟩ := keyT_of e2 (.inl D2)
            have ln := szOk_le hz
            have l1 := kv_len dn
            refine .inr ⟨a, o, xs, kb, nk, rfl, rfl, dc, keyAt_of q e3, e4, by omega, fun o' val rv nd => ?_⟩
            have put := put_kv dn e3 e4 q rv Dv
            obtain ⟨R3, K3⟩ := R2.write (d := .dict (dPut kvs nk kd d)) q4 h1 (o := dictO X.prog X.w a o' (storedH xs nk kb val)) ⟨_, o', upd_same, dc.sy, by
                have l2 := kv_len put
                have l3 := put_len kvs nk kd d
                omega, nd, DnKv.mono (fun b o s e => ⟨s, by rw [upd_ne fun z => s.2 (by rw [z]; exact ⟨i, q4, h1⟩)]; exact e⟩) put⟩
            exact k σ _ R3 ((K1.dk.trans K2.dk).trans K3.dk)
          · exact k.elim
    | _ => simp only [e0] at k; exact k.elim
/-! ### name op= int -/
def augM (i : Nat) (g : Int → Int → Int) (m : M D) : MS := fun ρ => match ρ i with
  | .im (.int a) => (m ρ).bind fun d ρ1 => match d with
    | .int b => .ok .nx (ρ1.put i (.im (.int (g a b))))
    | _ => .bad
  | _ => .bad
theorem s_aug {te : TE} {t : Bool} {i : Nat} {g : Int → Int → Int} {m : M D} (h : ∀ σ H Q, TG X W XR true t m σ H Q → te σ H Q) : ∀ En σ H, i < σ.length → TSr X W XR fr (augM i g m) En σ H → tAug i te (ipI g) En σ H := fun En σ H hi ⟨F, ρ, R, z⟩ => by
  unfold augM at z
  split at z
  · rename_i a ea
    obtain ⟨v, h1, h2⟩ := R.im i _ ea
    cases h2
    refine ⟨_, h1, h _ _ _ ⟨F, ρ, R, Out.sat_mono (Out.sat_bind.mp z) (fun d ρ1 k w H1 R1 K1 D1 => ?_) fun _ _ _ h => Xw_of h⟩⟩
    cases d with
    | int b =>
      have hn : notIo (ρ1 i) = true := by
        cases e : ρ1 i with
        | io d =>
          have := K1.le i (by rw [e]; rfl)
          rw [ea] at this
          cases this
        | _ => rfl
      obtain ⟨R2, K2⟩ := R1.setIm hi hn (.int (g a b))
      exact ⟨a, b, rfl, int_of (D1.bd : Bd X.prog X.w X.K _ _ _ _), k _ H1 R2 (K1.dk.trans K2)⟩
    | _ => exact k.elim
  · exact z.elim
/-! ### several names at once, data -/
theorem gP_nm {i : Nat} {v : V} {σ : Sg} {H : Hp} {Q : Sg → Hp → Prop} (hi : i < σ.length) (h : gP X (.nm i) v σ H Q) : Q (σ.set i (some v)) H := by
  obtain ⟨F, ρ, d, ρ', R, hd, e, k⟩ := h
  unfold bindP at e
  split at e
  · rename_i hz
    cases e
    obtain ⟨R', dk⟩ := R.setIm hi hz hd
    exact k _ R' dk ⟨List.length_set, fun j hj => List.getElem?_set_ne fun z => hj (by simp [patVs, z])⟩ fun j hj => put_ne fun z => hj (by simp [patVs, z])
  · cases e
theorem s_nm {te : TE} {t : Bool} {m : M D} {i : Nat} {En : Ends} {σ : Sg} {H : Hp} (h : ∀ σ H Q, TG X W XR false t m σ H Q → te σ H Q) (hi : i < σ.length) (z : TSr X W XR fr (asM (.nm i) m) En σ H) : tAsg te (gName i) En σ H := by
  obtain ⟨F, ρ, R, z⟩ := z
  exact h _ _ _ ⟨F, ρ, R, Out.sat_mono (sat2 z) (fun d ρ1 k v H1 R1 K1 D1 => by
    cases e : bindP (.nm i) d ρ1 with
    | none => rw [e] at k; exact k.elim
    | some ρ2 =>
      rw [e] at k
      exact gP_nm hi ⟨F, ρ1, d, ρ2, R1, D1, e, fun σ2 R2 K2 _ _ => k σ2 H1 R2 (K1.dk.trans K2)⟩) fun _ _ _ h => Xw_of h⟩
theorem gPs_cons {p : Pat} {ps : List Pat} {vs : List V} {σ : Sg} {H : Hp} {Q : Sg → Hp → Prop} (h : gPs X (p :: ps) vs σ H Q) : ∃ v r, vs = v :: r ∧ gP X p v σ H fun σ' H' => gPs X ps r σ' H' Q := by
  obtain ⟨F, ρ, d, ρ', R, hd, e, k⟩ := h
  cases hd with
  | nil => cases e
  | cons q r =>
    unfold bindPs at e
    cases e1 : bindP p _ ρ with
    | none => rw [e1] at e; cases e
    | some ρ1 =>
      rw [e1] at e
      exact ⟨_, _, rfl, F, ρ, _, ρ1, R, q, e1, fun σ1 R1 k1 c1 d1 => ⟨F, ρ1, _, ρ', R1, DnAll.mono k1.al r, e, fun σ2 R2 k2 c2 d2 => k σ2 R2 (k1.trans k2) (c1.trans c2) (d1.trans d2)⟩⟩
theorem gPs_nil {vs : List V} {σ : Sg} {H : Hp} {Q : Sg → Hp → Prop} (h : gPs X [] vs σ H Q) : vs = [] ∧ Q σ H := by
  obtain ⟨F, ρ, d, ρ', R, hd, e, k⟩ := h
  cases hd with
  | nil =>
    cases e
    exact ⟨rfl, k σ R Dk.refl Chg.refl fun _ _ => rfl⟩
  | cons _ _ => cases e
theorem gPs_2 {i j : Nat} {vs : List V} {σ : Sg} {H : Hp} {Q : Sg → Hp → Prop} (hi : i < σ.length) (hj : j < σ.length) (h : gPs X [.nm i, .nm j] vs σ H Q) : ∃ v w, vs = [v, w] ∧ Q ((σ.set i (some v)).set j (some w)) H := by
  obtain ⟨v, r, e1, h1⟩ := gPs_cons h
  obtain ⟨w, r2, e2, h2⟩ := gPs_cons (gP_nm hi h1)
  obtain ⟨e3, h3⟩ := gPs_nil (gP_nm (by rw [List.length_set]; exact hj) h2)
  exact ⟨v, w, by rw [e1, e2, e3], h3⟩
theorem gPs_3 {i j l : Nat} {vs : List V} {σ : Sg} {H : Hp} {Q : Sg → Hp → Prop} (hi : i < σ.length) (hj : j < σ.length) (hl : l < σ.length) (h : gPs X [.nm i, .nm j, .nm l] vs σ H Q) :
    ∃ u v w, vs = [u, v, w] ∧ Q (((σ.set i (some u)).set j (some v)).set l (some w)) H := by
  obtain ⟨v, r, e1, h1⟩ := gPs_cons h
  obtain ⟨w, r2, e2, h2⟩ := gPs_cons (gP_nm hi h1)
  obtain ⟨x, r3, e3, h3⟩ := gPs_cons (gP_nm (by rw [List.length_set]; exact hj) h2)
  obtain ⟨e4, h4⟩ := gPs_nil (gP_nm (by rw [List.length_set, List.length_set]; exact hl) h3)
  exact ⟨v, w, x, by rw [e1, e2, e3, e4], h4⟩
theorem par_data {ps : List Pat} {ta : TA} {t : Bool} {m : M (List D)} (ha : ∀ σ H Q, TAs X W XR t m σ H Q → ta σ H Q) :
    ∀ En σ H, TSr X W XR fr (asM (.tp ps) (tupM m)) En σ H → ta σ H fun vs H1 => gPs X ps vs σ H1 En.nx := fun En σ H ⟨F, ρ, R, z⟩ =>
  ha _ _ _ ⟨F, ρ, R, Out.sat_mono (sat2 (sat2 z)) (fun ds ρ1 k vs H1 R1 K1 D1 => by
    obtain ⟨d, e1, k⟩ := satl k
    split at e1
    · cases e1
      cases e2 : bindP (.tp ps) (.tuple ds) ρ1 with
      | none => rw [e2] at k; exact k.elim
      | some ρ2 =>
        rw [e2] at k
        exact ⟨F, ρ1, ds, ρ2, R1, D1, e2, fun σ2 R2 K2 _ _ => k σ2 H1 R2 (K1.dk.trans K2)⟩
    · cases e1) fun _ _ _ h => Xw_of h⟩
end

/-! ### from the text -/
abbrev Pw (X : Cx) : Prop := PassesOwn (model X.prog X.w) X.A X.env X.xe ∧ X.stack = X.env :: X.outer ∧ X.env.frame = some X.env.locals
structure R1 (c : Cc) (fr : Bool) (st : Stmt) where
  m : MS
  p : ∀ X W XR, Ok c X W XR → Pw X → PS X st (TSr X W XR fr m)
structure RS (c : Cc) (fr : Bool) (ss : List Stmt) where
  m : MS
  p : ∀ X W XR, Ok c X W XR → Pw X → PSs X ss (TSr X W XR fr m)
def notComp : Expr → Bool
  | .ListComp _ _ _ _ => false
  | .SetComp _ _ _ _ => false
  | .DictComp _ _ _ _ _ => false
  | _ => true
theorem notComp_of {e : Expr} (h : notComp e = true) {t : Option Expr} {l : Nat} {env : PySem.Env} : swapsWith e t l env = pure false := by
  cases e <;> first | rfl | cases h
def notTup : Expr → Bool
  | .Tuple _ _ _ => false
  | _ => true
theorem notTup_of {es : List Expr} {k : Nat} {p : Pos} {e : Expr} (h : notTup e = true) {env : PySem.Env} : swappedStores [.Tuple es k p] e env = pure none := by
  cases e <;> first | rfl | cases h
theorem sole_tup {es : List Expr} {k : Nat} {p : Pos} {e : Expr} {l : Nat} {env : PySem.Env} : swapsWithSole [.Tuple es k p] e l env = pure false := by
  show swapsWith e (some (.Tuple es k p)) l env = pure false
  cases e <;> rfl
theorem sole_sub {a b : Expr} {p : Pos} {e : Expr} {l : Nat} {env : PySem.Env} : swapsWithSole [.Subscript a b p] e l env = pure false := by
  show swapsWith e (some (.Subscript a b p)) l env = pure false
  cases e <;> rfl
theorem sw_sub {a b : Expr} {p : Pos} {e : Expr} {env : PySem.Env} : swappedStores [.Subscript a b p] e env = pure none := by
  unfold swappedStores
  rfl
/-- a comprehension that is put into a name at once -/
def swB (c : Cc) (scope : Scope) (pos : Pos) (y : Str) (py spos : Pos) : Bool := (c.sc.names.lookup y == some .local) && (py.line == pos.line) && !(scope.names.any fun (n, k) => n == y && (k == .local || k == .cell))
theorem swB_of {c : Cc} {elt : Expr} {gens : List Comprehension} {scope : Scope} {pos : Pos} {y : Str} {py spos : Pos} {X : Cx} {W : WX} {XR : XRep} (h : swB c scope pos y py spos = true) (ok : Ok c X W XR) :
    X.env.scope.names.lookup y = some .local ∧ swapsWith (.ListComp elt gens scope pos) (some (.Name y py)) spos.line X.env = pure true := by
  unfold swB at h
  simp only [Bool.and_eq_true, Bool.not_eq_true', beq_iff_eq] at h
  have hy : X.env.scope.names.lookup y = some .local := by rw [ok.sc]; exact h.1.1
  exact ⟨hy, sw_true ok.kd hy (by simpa using h.1.2) h.2⟩
theorem tr_of {te : TE} {X : Cx} {W : WX} {XR : XRep} {t : Bool} {m : M D} (h : ∀ σ H Q, TF X W XR t m σ H Q → te σ H Q) : ∀ σ H Q, TR X W XR t m σ H Q → te σ H Q := fun σ H Q ⟨F, ρ, R, z⟩ =>
  h σ H Q ⟨F, ρ, R, Out.sat_mono z (fun d ρ' k a H' R' K' n ob => k a H' ⟨R', R.none0 n, R.fresh a n, noMut R K' n, ob⟩ K' (.inl n)) fun _ _ _ h => h⟩
theorem tg_of {te : TE} {X : Cx} {W : WX} {XR : XRep} {t : Bool} {m : M D} (h : ∀ σ H Q, TF X W XR t m σ H Q → te σ H Q) : ∀ σ H Q, TG X W XR false t m σ H Q → te σ H Q := fun σ H Q ⟨F, ρ, R, z⟩ =>
  h σ H Q ⟨F, ρ, R, Out.sat_mono z (fun d ρ' k a H' R' K' n ob => k _ H' (R'.but fun _ => R.fresh a n) K' (ob.dn (S := Al (F.but a) ρ' σ) (R.newAl K' n) Fr.but_le)) fun _ _ _ h => h⟩
def asgComp (d : Den) (c : Cc) (fr : Bool) (mm : List Str) (x : Str) (px : Pos) (elt : Expr) (gens : List Comprehension) (scope : Scope) (cpos : Pos) (pos : Pos) : Option (R1 c fr (.Assign [.Name x px] (.ListComp elt gens scope cpos) pos)) :=
  guardO (locB c x (ixOf c x)) fun h => guardO (swB c scope cpos x px pos) fun hs => do
    let r ← mkCompC d c elt gens scope cpos
    if mm.contains x = true then some ⟨asMu (ixOf c x) r.m, fun X W XR ok pw => by
      obtain ⟨te, h1, h2, h3⟩ := r.p X W XR ok
      obtain ⟨_, hi, hn, _⟩ := locB_of h ok px
      obtain ⟨q1, q2⟩ := swB_of (elt := elt) (gens := gens) hs ok
      exact PSi (h2 (ixOf c x) x px pos hn q1 q2) fun En σ H hl z => s_mu (t := r.t) (tr_of h3) En σ H (by rw [hl]; exact hi) z⟩
    else some ⟨asM (.nm (ixOf c x)) r.m, fun X W XR ok pw => by
      obtain ⟨te, h1, h2, h3⟩ := r.p X W XR ok
      obtain ⟨_, hi, hn, _⟩ := locB_of h ok px
      obtain ⟨q1, q2⟩ := swB_of (elt := elt) (gens := gens) hs ok
      exact PSi (h2 (ixOf c x) x px pos hn q1 q2) fun En σ H hl z => s_nm (t := r.t) (tg_of h3) (by rw [hl]; exact hi) z⟩
def asgName (d : Den) (c : Cc) (fr : Bool) (mm : List Str) (x : Str) (px : Pos) (e : Expr) (pos : Pos) : Option (R1 c fr (.Assign [.Name x px] e pos)) :=
  guardO (locB c x (ixOf c x)) fun h => guardO (notComp e) fun hc =>
    if mm.contains x = true then do
      let r ← d.f c e
      some ⟨asMu (ixOf c x) r.m, fun X W XR ok pw => by
        obtain ⟨_, hi, hn, hl⟩ := locB_of h ok px
        exact PSi (ps_set ok.nd hn (by rw [ok.sc]; exact hl.1) (r_ff (r.p X W XR ok)) (notComp_of hc) (by rw [ok.sc]; exact hl.2)) fun En σ H hl z => s_mu (fun _ _ _ z => z) En σ H (by rw [hl]; exact hi) z⟩
    else do
      let r ← (← d.u c e false).z
      some ⟨asM (.nm (ixOf c x)) r.m, fun X W XR ok pw => by
        obtain ⟨_, hi, hn, hl⟩ := locB_of h ok px
        exact PSi (ps_set ok.nd hn (by rw [ok.sc]; exact hl.1) (r.p X W XR ok) (notComp_of hc) (by rw [ok.sc]; exact hl.2)) fun En σ H hl z => s_nm (fun _ _ _ z => z) (by rw [hl]; exact hi) z⟩
/-- a comprehension that goes through a cell -/
def asgCell (d : Den) (c : Cc) (fr : Bool) (mm : List Str) (x : Str) (px : Pos) (elt : Expr) (gens : List Comprehension) (scope : Scope) (cpos : Pos) (pos : Pos) : Option (R1 c fr (.Assign [.Name x px] (.ListComp elt gens scope cpos) pos)) :=
  guardO (locB c x (ixOf c x)) fun h => guardO (!(c.sc.names.lookup x == some .local)) fun hs =>
    have sw : ∀ {X : Cx} {W : WX} {XR : XRep}, Ok c X W XR → swapsWith (.ListComp elt gens scope cpos) (some (.Name x px)) pos.line X.env = pure false := fun {X W XR} ok => by
      have hk : (X.env.kindOf x == some .local) = false := by
        unfold PySem.Env.kindOf
        rw [ok.sc]
        simpa using hs
      unfold swapsWith
      simp only [hk, Bool.and_false, Bool.false_and]
    if mm.contains x = true then do
      let r ← d.f c (.ListComp elt gens scope cpos)
      some ⟨asMu (ixOf c x) r.m, fun X W XR ok pw => by
        obtain ⟨_, hi, hn, hl⟩ := locB_of h ok px
        exact PSi (ps_set ok.nd hn (by rw [ok.sc]; exact hl.1) (r_ff (r.p X W XR ok)) (sw ok) (by rw [ok.sc]; exact hl.2)) fun En σ H hl z => s_mu (fun _ _ _ z => z) En σ H (by rw [hl]; exact hi) z⟩
    else do
      let r ← (← d.u c (.ListComp elt gens scope cpos) false).z
      some ⟨asM (.nm (ixOf c x)) r.m, fun X W XR ok pw => by
        obtain ⟨_, hi, hn, hl⟩ := locB_of h ok px
        exact PSi (ps_set ok.nd hn (by rw [ok.sc]; exact hl.1) (r.p X W XR ok) (sw ok) (by rw [ok.sc]; exact hl.2)) fun En σ H hl z => s_nm (fun _ _ _ z => z) (by rw [hl]; exact hi) z⟩

/-! ### a tuple of names = a tuple -/
/-- the names, their places -/
def nmsOf (c : Cc) : List Expr → Option (List Nat)
  | [] => some []
  | .Name x _ :: es => (nmsOf c es).map (ixOf c x :: ·)
  | _ => none
/-- its elements may be the frame's own: two names on one line, none of them a cell -/
def par2S (d : Den) (c : Cc) (fr : Bool) (mm : List Str) (x y : Str) (px py : Pos) (kt : Nat) (pt : Pos) (a b : Expr) (k2 : Nat) (pt2 pos : Pos) : Option (R1 c fr (.Assign [.Tuple [.Name x px, .Name y py] kt pt] (.Tuple [a, b] k2 pt2) pos)) :=
  guardO (locB c x (ixOf c x)) fun h1 => guardO (locB c y (ixOf c y)) fun h2 => guardO (decide (swOf c.sc [.Name x px, .Name y py] [a, b] = some (some [x, y]))) fun hw => guardO (c.sc.names.lookup x == some .local && c.sc.names.lookup y == some .local) fun hl =>
  guardO (decide (ixOf c x ≠ ixOf c y)) fun hne => guardO (noStar a) fun sa => guardO (noStar b) fun sb =>
    let one (e : Expr) (own : Bool) : Option (Σ' (t : Bool) (m : M D), ∀ X W XR, Ok c X W XR → PE X e (TX X W XR own t m)) := match own with
      | true => do
        let r ← d.f c e
        some ⟨r.t, r.m, r.p⟩
      | false => do
        let r ← (← d.u c e false).z
        some ⟨r.t, r.m, r.p⟩
    do
    let ⟨t1, m1, p1⟩ ← one a (mm.contains x)
    let ⟨t2, m2, p2⟩ ← one b (mm.contains y)
    some ⟨par2 (ixOf c x) (ixOf c y) (mm.contains x) (mm.contains y) m1 m2, fun X W XR ok pw => by
      obtain ⟨_, i1, n1, _⟩ := locB_of h1 ok px
      obtain ⟨_, i2, n2, _⟩ := locB_of h2 ok py
      rw [Bool.and_eq_true, beq_iff_eq, beq_iff_eq] at hl
      have hne' := of_decide_eq_true hne
      refine PSi (ps_par ok.cl ok.nd n1 n2 hne' (by rw [ok.sc]; exact hl.1) (by rw [ok.sc]; exact hl.2) (pa_cons (p1 X W XR ok) (pa_cons (p2 X W XR ok) pa_nil (star1 sb)) (star1 sa)) (sw_of ok.kd (by rw [ok.sc]; exact of_decide_eq_true hw)) sole_tup) fun En σ H hlen z => ?_
      exact t_par2 hne' (fun _ _ _ z => z) (fun _ _ _ z => z) (by rw [hlen]; exact i1) (by rw [hlen]; exact i2) z⟩
/-- three names, data -/
def par3S (d : Den) (c : Cc) (fr : Bool) (x y w : Str) (px py pw : Pos) (kt : Nat) (pt : Pos) (a b e : Expr) (k2 : Nat) (pt2 pos : Pos) : Option (R1 c fr (.Assign [.Tuple [.Name x px, .Name y py, .Name w pw] kt pt] (.Tuple [a, b, e] k2 pt2) pos)) :=
  guardO (locB c x (ixOf c x)) fun h1 => guardO (locB c y (ixOf c y)) fun h2 => guardO (locB c w (ixOf c w)) fun h3 => guardO (decide (swOf c.sc [.Name x px, .Name y py, .Name w pw] [a, b, e] = some (some [x, y, w]))) fun hw =>
  guardO (c.sc.names.lookup x == some .local && c.sc.names.lookup y == some .local && c.sc.names.lookup w == some .local) fun hl =>
  guardO (decide (ixOf c x ≠ ixOf c y ∧ ixOf c x ≠ ixOf c w ∧ ixOf c y ≠ ixOf c w)) fun hne => do
    let r ← denArgs d c [a, b, e]
    some ⟨asM (.tp [.nm (ixOf c x), .nm (ixOf c y), .nm (ixOf c w)]) (tupM r.m), fun X W XR ok pw' => by
      obtain ⟨_, i1, n1, _⟩ := locB_of h1 ok px
      obtain ⟨_, i2, n2, _⟩ := locB_of h2 ok py
      obtain ⟨_, i3, n3, _⟩ := locB_of h3 ok pw
      rw [Bool.and_eq_true, Bool.and_eq_true, beq_iff_eq, beq_iff_eq, beq_iff_eq] at hl
      obtain ⟨q1, q2, q3⟩ := of_decide_eq_true hne
      refine PSi (ps_par3 ok.cl ok.nd n1 n2 n3 q1 q2 q3 (by rw [ok.sc]; exact hl.1.1) (by rw [ok.sc]; exact hl.1.2) (by rw [ok.sc]; exact hl.2) (r.p X W XR ok) (sw_of ok.kd (by rw [ok.sc]; exact of_decide_eq_true hw)) sole_tup) fun En σ H hlen z => ?_
      obtain ⟨F, ρ, R, z3⟩ := par_data (t := r.t) (m := r.m) (ta := TAs X W XR r.t r.m) (fun _ _ _ z => z) En σ H z
      exact ⟨F, ρ, R, Out.sat_mono z3 (fun ds ρ' k vs H1 R1 K1 D1 => gPs_3 (by rw [hlen]; exact i1) (by rw [hlen]; exact i2) (by rw [hlen]; exact i3) (k vs H1 R1 K1 D1)) fun _ _ _ h => h⟩⟩
/-- where a cell is among them, or the value is no display -/
def tupT (d : Den) (c : Cc) (fr : Bool) (es : List Expr) (kt : Nat) (pt : Pos) (vs : List Expr) (k2 : Nat) (pt2 pos : Pos) : Option (R1 c fr (.Assign [.Tuple es kt pt] (.Tuple vs k2 pt2) pos)) := do
  let q ← denP c 8 (.Tuple es kt pt)
  let r ← (← d.u c (.Tuple vs k2 pt2) false).z
  guardO (decide (swOf c.sc es vs = some none)) fun hw => some ⟨asM q.q r.m, fun X W XR ok pw => PSi (ps_asg (r.p X W XR ok) (q.p X W XR ok) sole_tup (sw_of ok.kd (by rw [ok.sc]; exact of_decide_eq_true hw)) rfl) fun En σ H hl z => s_asg (fun _ _ _ z => z) (fun _ _ _ _ z => z) En σ H z⟩
def tupO (d : Den) (c : Cc) (fr : Bool) (es : List Expr) (kt : Nat) (pt : Pos) (e : Expr) (pos : Pos) : Option (R1 c fr (.Assign [.Tuple es kt pt] e pos)) := do
  let q ← denP c 8 (.Tuple es kt pt)
  let r ← (← d.u c e false).z
  guardO (notTup e) fun hn => some ⟨asM q.q r.m, fun X W XR ok pw => PSi (ps_asg (r.p X W XR ok) (q.p X W XR ok) sole_tup (notTup_of hn) rfl) fun En σ H hl z => s_asg (fun _ _ _ z => z) (fun _ _ _ _ z => z) En σ H z⟩
def tupS (d : Den) (c : Cc) (fr : Bool) (es : List Expr) (kt : Nat) (pt : Pos) (e : Expr) (pos : Pos) : Option (R1 c fr (.Assign [.Tuple es kt pt] e pos)) := match e with
  | .Tuple vs k2 pt2 => tupT d c fr es kt pt vs k2 pt2 pos
  | e => tupO d c fr es kt pt e pos
def asgTup (d : Den) (c : Cc) (fr : Bool) (mm : List Str) (es : List Expr) (kt : Nat) (pt : Pos) (e : Expr) (pos : Pos) : Option (R1 c fr (.Assign [.Tuple es kt pt] e pos)) := match es, e with
  | [.Name x px, .Name y py], .Tuple [a, b] k2 pt2 => (par2S d c fr mm x y px py kt pt a b k2 pt2 pos).orElse fun _ => tupS d c fr _ kt pt _ pos
  | [.Name x px, .Name y py, .Name w pw], .Tuple [a, b, e] k2 pt2 => (par3S d c fr x y w px py pw kt pt a b e k2 pt2 pos).orElse fun _ => tupS d c fr _ kt pt _ pos
  | es, e => tupS d c fr es kt pt e pos
/-- o[k] = e -/
theorem noSlice_st {o k : Expr} {pos : Pos} (h : noSlice k = true) {env : PySem.Env} (v : Value) : assign (.Subscript o k pos) env v = (do
      let ov ← holding [v] (eval o env)
      let iv ← holding [v, ov] (eval k env)
      standAt pos
      holding [v, ov, iv] (setItem ov iv v)
      release [v, ov, iv] []) := by
  cases k <;> first | rfl | cases h
def asgSub (d : Den) (c : Cc) (fr : Bool) (o k : Expr) (tpos : Pos) (e : Expr) (pos : Pos) : Option (R1 c fr (.Assign [.Subscript o k tpos] e pos)) := do
  let ⟨i, hi⟩ ← slotOf c o
  let r ← (← d.u c e false).z
  let q ← (← d.u c k false).z
  guardO (noSlice k) fun hk => some ⟨setXM i q.m r.m, fun X W XR ok pw => PSi (ps_asg (r.p X W XR ok) (pg_sub (hi.2 X W XR ok) (q.p X W XR ok) (PSet.or set_list (set_dic (by have := ok.hu; omega))) (noSlice_st hk)) sole_sub sw_sub rfl) fun En σ H hl z => s_setX (fun _ _ _ z => z) (fun _ _ _ z => z) En σ H z⟩
def augOf : (op : Operator) → Option (Σ' g : Int → Int → Int, ∀ X : Cx, PIp X op (ipI g))
  | .Add => some ⟨fun i j => i + j, fun X => ip_add⟩
  | .Sub => some ⟨fun i j => i - j, fun X => ip_sub⟩
  | _ => none

/-- raise C(e) -/
def raiseOf (d : Den) (c : Cc) (fr : Bool) (x : Str) (p : Pos) (e : Expr) (pos rpos : Pos) : Option (R1 c fr (.Raise (some (.Call (.Name x p) [e] [] pos)) none rpos)) := match hg : glo c x with
  | some (.cls n f b) => guardO (noDebug x) fun hd => guardO (noStar e) fun hs => do
    let r ← d.u c e true
    some ⟨raiseM n r.m, fun X W XR ok pw => by
      obtain ⟨h1, h2⟩ := glo_of hg ok
      exact p_raise ok.cl ok.tk h2.mk_ h1 (noDebug_of hd) (r.p X W XR ok) (star1 hs)⟩
  | _ => none

def locN (c : Cc) (n : Str) : Bool := (match c.sc.names.lookup n with
  | some .local => true
  | _ => false) && !(n == ("__debug__" : Str)) && !(n == ("__classdict__" : Str))
theorem locN_of {c : Cc} {n : Str} (h : locN c n = true) : c.sc.names.lookup n = some .local ∧ (n == ("__debug__" : Str)) = false ∧ (n == ("__classdict__" : Str)) = false := by
  unfold locN at h
  simp only [Bool.and_eq_true, Bool.not_eq_true'] at h
  refine ⟨?_, h.1.2, h.2⟩
  have q := h.1.1
  split at q
  · assumption
  · cases q
def tyB (c : Cc) (b : Str) (base : String) : Bool := decide (b = Str.ofString base) && glB c b && c.B.contains b && decide (bootBuiltins b = some (.type base)) && !(b == ("__name__" : Str)) && !(b == ("__debug__" : Str))
/-- try: .. except C as n: return [text, n.f, isinstance(n, base)] -/
def tryOf (c : Cc) (fr : Bool) {body : List Stmt} (r : RS c false body) (x n : Str) (np : Pos) (nm : Str) (j : Nat) (p1 : Pos) (n2 : Str) (p2 : Pos) (f : Str) (p3 : Pos) (is : Str) (p4 : Pos) (n3 : Str) (p5 : Pos) (b : Str) (p6 p7 p8 p9 pos' pos : Pos) :
    Option (R1 c fr (.Try body [.ExceptHandler (some (.Name x np)) (some n) [.Return (some (.List [.Constant (.str nm) j p1, .Attribute (.Name n2 p2) f p3, .Call (.Name is p4) [.Name n3 p5, .Name b p6] [] p7] p8)) p9] pos'] [] [] pos)) := match fr, hg : glo c x with
  | false, some (.cls k f0 base) => guardO (decide (n2 = n ∧ n3 = n ∧ is = "isinstance" ∧ f = f0)) fun he => guardO (noDebug x) fun hd => guardO (locB c n (ixOf c n)) fun hl => guardO (locN c n) fun hn => guardO (bnB c "isinstance" "isinstance") fun h1 => guardO (tyB c b base) fun h2 =>
    some ⟨tryM k nm r.m, fun X W XR ok pw => by
      obtain ⟨rfl, rfl, rfl, rfl⟩ := of_decide_eq_true he
      obtain ⟨g1, g2⟩ := glo_of hg ok
      obtain ⟨_, i2, i1, _⟩ := locB_of hl ok np
      obtain ⟨v1, v2, v3⟩ := locN_of hn
      unfold tyB at h2
      simp only [Bool.and_eq_true, Bool.not_eq_true', decide_eq_true_eq] at h2
      obtain ⟨⟨⟨⟨⟨e1, e2⟩, e3⟩, e4⟩, e5⟩, e6⟩ := h2
      exact p_try pw.2.1 pw.2.2 ok.nd i1 i2 (by rw [ok.sc]; exact v1) v2 v3 g2 g1 (noDebug_of hd) ok.tk (bnB_of h1 (by decide) ok) ⟨glB_of e2 ok, ok.bl b (List.contains_iff_mem.mp e3), e4, fun z => by rw [z] at e5; simp at e5, e6⟩
        fun W' pn xe tk pw' => r.p _ W' XR (ok.tr tk) ⟨pw', pw.2⟩⟩
  | _, _ => none

/-! ### statements -/
noncomputable def denBl {c : Cc} {fr : Bool} (f : (st : Stmt) → Option (R1 c fr st)) : (ss : List Stmt) → Option (RS c fr ss)
  | [] => some ⟨nxM, fun X W XR ok pw => PSsi pss_nil fun En σ H hl z => s_next En σ H z⟩
  | st :: ss => do
    let x ← f st
    let r ← denBl f ss
    some ⟨seqM x.m r.m, fun X W XR ok pw => PSsi (pss_cons (x.p X W XR ok pw) (r.p X W XR ok pw)) fun En σ H hl z => s_seq (fun _ _ _ z => z) (fun _ _ _ z => z) En σ H z⟩
noncomputable def denSt (d : Den) (c : Cc) (fr : Bool) (mm : List Str) : Nat → (st : Stmt) → Option (R1 c fr st)
  | 0, _ => none
  | n + 1, .Return (some e) pos => match fr with
    | false => do
      let r ← (← d.u c e false).z
      some ⟨rtM r.m, fun X W XR ok pw => PSi (ps_ret (r.p X W XR ok)) fun En σ H hl z => s_ret (fun _ _ _ z => z) En σ H z⟩
    | true => (do
      let r ← d.f c e
      some ⟨rtM r.m, fun X W XR ok pw => PSi (ps_ret (r_ff (r.p X W XR ok))) fun En σ H hl z => s_retF (fun _ _ _ z => z) En σ H z⟩ : Option (R1 c true (.Return (some e) pos))).orElse fun _ => do
      let ⟨i, hi⟩ ← slotOf c e
      some ⟨rtM (mvM i), fun X W XR ok pw => PSi (ps_ret (r_mv (hi.2 X W XR ok))) fun En σ H hl z => s_retF (fun _ _ _ z => z) En σ H z⟩
  | n + 1, .Return none pos => match fr with
    | false => some ⟨rtN, fun X W XR ok pw => PSi ps_retN fun En σ H hl z => s_retN En σ H z⟩
    | true => none
  | n + 1, .Expr e pos => guardO (notComp e) fun hc => do
    let r ← d.u c e true
    some ⟨drM r.m, fun X W XR ok pw => PSi (ps_expr (r.p X W XR ok) (notComp_of hc)) fun En σ H hl z => s_drop (t := r.t) (fun σ H Q z => by
      obtain ⟨F, ρ, R, z⟩ := z
      exact ⟨F, ρ, R, Out.sat_mono z (fun d ρ' k v H' R' K' D' => k v H' R' K' (Rg.bd D')) fun _ _ _ h => h⟩) En σ H z⟩
  | n + 1, .Assign [.Name x px] (.ListComp elt gens scope cpos) pos => (asgComp d c fr mm x px elt gens scope cpos pos).orElse fun _ => asgCell d c fr mm x px elt gens scope cpos pos
  | n + 1, .Assign [.Name x px] e pos => asgName d c fr mm x px e pos
  | n + 1, .Assign [.Tuple es kt pt] e pos => asgTup d c fr mm es kt pt e pos
  | n + 1, .Assign [.Subscript o k tpos] e pos => asgSub d c fr o k tpos e pos
  | n + 1, .AugAssign (.Name x px) op e pos => guardO (locB c x (ixOf c x)) fun h => do
    let ⟨g, hg⟩ ← augOf op
    let r ← d.u c e true
    some ⟨augM (ixOf c x) g r.m, fun X W XR ok pw => by
      obtain ⟨_, hi, hn, hl⟩ := locB_of h ok px
      exact PSi (ps_aug ok.nd hn (by rw [ok.sc]; exact hl.1) (r.p X W XR ok) (hg X) (by rw [ok.sc]; exact hl.2)) fun En σ H hl z => s_aug (t := r.t) (fun σ H Q z => by
        obtain ⟨F, ρ, R, z⟩ := z
        exact ⟨F, ρ, R, Out.sat_mono z (fun d ρ' k v H' R' K' D' => k v H' R' K' (Rg.bd D')) fun _ _ _ h => h⟩) En σ H (by rw [hl]; exact hi) z⟩
  | n + 1, .If q a b pos => do
    let t ← d.t c q
    let x ← denBl (denSt d c fr mm n) a
    let y ← denBl (denSt d c fr mm n) b
    some ⟨ifM t.m x.m y.m, fun X W XR ok pw => PSi (ps_if (t.p X W XR ok) (x.p X W XR ok pw) (y.p X W XR ok pw)) fun En σ H hl z => s_if (fun _ _ _ z => z) (fun _ _ _ z => z) (fun _ _ _ z => z) En σ H z⟩
  | n + 1, .While q a [] pos => do
    let t ← d.t c q
    let x ← denBl (denSt d c fr mm n) a
    some ⟨whileM t.m x.m, fun X W XR ok pw => PSi (ps_while pw.1 (t.p X W XR ok) (x.p X W XR ok pw)) fun En σ H hl z => s_while (fun _ _ _ z => z) (fun _ _ _ z => z) En σ H z⟩
  | n + 1, .For tg it a [] pos => do
    let s ← d.i c tg it false
    let q ← denP c 8 tg
    let x ← denBl (denSt d c fr mm n) a
    guardO (!s.u) fun hu => guardO (noSet it) fun hn => some ⟨forM' s.m q.q x.m, fun X W XR ok pw => PSi (ps_for pw.1 ok.cl (s.p X W XR ok) (q.p X W XR ok) (x.p X W XR ok pw) (fun v => noSet_folded hn v)) fun En σ H hl z => s_for (by rw [not_of hu]; exact fun _ _ _ z => z) (fun _ _ _ _ z => z) (fun _ _ _ z => z) En σ H z⟩
  | n + 1, .Raise (some (.Call (.Name x p) [e] [] pos)) none rpos => raiseOf d c fr x p e pos rpos
  | n + 1, .Try body [.ExceptHandler (some (.Name x np)) (some nn) [.Return (some (.List [.Constant (.str nm) j p1, .Attribute (.Name n2 p2) f p3, .Call (.Name is p4) [.Name n3 p5, .Name b p6] [] p7] p8)) p9] pos'] [] [] pos => do
    let r ← denBl (denSt d c false mm n) body
    tryOf c fr r x nn np nm j p1 n2 p2 f p3 is p4 n3 p5 b p6 p7 p8 p9 pos' pos
  | n + 1, .Pass pos => some ⟨nxM, fun X W XR ok pw => PSi ps_pass fun En σ H hl z => s_next En σ H z⟩
  | n + 1, .Break pos => some ⟨bkM, fun X W XR ok pw => PSi ps_break fun En σ H hl z => s_brk En σ H z⟩
  | n + 1, .Continue pos => some ⟨ctM, fun X W XR ok pw => PSi ps_continue fun En σ H hl z => s_cont En σ H z⟩
  | _, _ => none
end Rf
end
section
set_option Elab.async false
set_option linter.all false
set_option maxRecDepth 100000
set_option maxHeartbeats 2000000
/-! Rf, part Q: the defs of a text, by levels. -/
namespace Rf
open PySem PySem.Spec L2
/-- a def of the text: its statement, parameters, slots, how the arguments are taken, whether its result is a new object of the caller's own, the names that are changed in it -/
structure Df where
  x : Str
  st : Stmt
  ps : List Str
  N : List Str
  ms : List Md
  fr : Bool
  mm : List Str
structure Sy where
  ds : List Df
  cs : List (Str × Gv)
  B : List Str
  n : Nat
def gvs (T : Nat → Fn) : Nat → List Df → List (Str × Gv)
  | _, [] => []
  | i, d :: ds => (d.x, .fn d.ms d.fr (T i)) :: gvs T (i + 1) ds
def Sy.ctx (S : Sy) (d : Df) (T : Nat → Fn) : Cc := ⟨d.N, defScope d.st, S.cs ++ gvs T 0 S.ds, S.B, []⟩
noncomputable def Sy.rd (S : Sy) (d : Df) (T : Nat → Fn) : Option (RS (S.ctx d T) d.fr (defBody d.st)) := denBl (denSt (den S.n) (S.ctx d T) d.fr d.mm S.n) (defBody d.st)
noncomputable def Sy.fnAt (S : Sy) (d : Df) (T : Nat → Fn) : Fn := match S.rd d T with
  | some r => fnOf d.ms d.fr r.m
  | none => fun _ => .bad
noncomputable def Sy.up (S : Sy) (T : Nat → Fn) (i : Nat) : Fn := match S.ds[i]? with
  | some d => S.fnAt d T
  | none => fun _ => .bad
noncomputable def Sy.tab (S : Sy) : Nat → Nat → Fn
  | 0 => fun _ _ => .bad
  | k + 1 => S.up (S.tab k)
/-- what stands for the names of the text -/
structure Sy.At (S : Sy) (P : Program) (w : World) (K : PySem.W.Frag) (mg : Str → Option Value) (XR : XRep) : Prop where
  df : ∀ d ∈ S.ds, ∃ q f fd, FunD K d.x q (defArgs d.st) (defBody d.st) (defScope d.st) [] [] f fd ∧ mg d.x = some (.ref f) ∧ Binds K fd d.ps []
  sc : ∀ d ∈ S.ds, FnScope d.N d.ps (defScope d.st) ∧ d.ms.length = d.ps.length
  con : ∀ X : Cx, X.prog = P → X.w = w → X.K = K → X.mg = mg → Room 3 X.A → ∀ p ∈ S.cs, GvOk X XR p.1 p.2
  bl : ∀ x ∈ S.B, mg x = none
theorem gvs_mem {T : Nat → Fn} {x : Str} {g : Gv} : ∀ {ds : List Df} {i : Nat}, (x, g) ∈ gvs T i ds → ∃ j d, ds[j]? = some d ∧ x = d.x ∧ g = .fn d.ms d.fr (T (i + j))
  | [], _, h => by cases h
  | d :: ds, i, h => by
    unfold gvs at h
    rcases List.mem_cons.mp h with e | h
    · cases e
      exact ⟨0, d, rfl, rfl, rfl⟩
    · obtain ⟨j, d', h1, h2, h3⟩ := gvs_mem h
      exact ⟨j + 1, d', by rw [List.getElem?_cons_succ]; exact h1, h2, by rw [h3, show i + 1 + j = i + (j + 1) by omega]⟩
theorem spF_bad {P : Program} {w : World} {K : PySem.W.Frag} {mg : Str → Option Value} {base : Heap} {CX : CXT} {k : Nat} {f : Addr} {fd : FuncData} {ps : List Str} {XR : XRep} {ms : List Md} {fr : Bool} (hl : ms.length = ps.length) :
    FnOk P w K mg base CX k f fd ps (spF P w K XR ms fr fun _ => .bad) :=
  ⟨fun vs H Q E h => (spF_len vs H Q E h).trans hl, fun _ _ _ _ _ _ _ _ _ _ _ _ _ ⟨_, _, _, _, _, z⟩ => z.elim⟩
/-- every def keeps its promise, at each level -/
theorem Sy.ok {S : Sy} {P : Program} {w : World} {K : PySem.W.Frag} {mg : Str → Option Value} {XR : XRep} (h : S.At P w K mg XR) (base : Heap) : ∀ (k i : Nat) (d : Df), S.ds[i]? = some d → ∀ {q : Str} {f : Addr} {fd : FuncData}, FunD K d.x q (defArgs d.st) (defBody d.st) (defScope d.st) [] [] f fd →
    FnOk P w K mg base (L2.CX P w) (k + 4) f fd d.ps (spF P w K XR d.ms d.fr (S.tab k i))
  | 0, i, d, hd, q, f, fd, F => spF_bad (h.sc d (List.mem_of_getElem? hd)).2
  | k + 1, i, d, hd, q, f, fd, F => by
    obtain ⟨sc, hl⟩ := h.sc d (List.mem_of_getElem? hd)
    have e : S.tab (k + 1) i = S.fnAt d (S.tab k) := by
      show S.up (S.tab k) i = _
      unfold Sy.up
      rw [hd]
    rw [e]
    unfold Sy.fnAt
    cases er : S.rd d (S.tab k) with
    | none => exact spF_bad hl
    | some r =>
      refine F.ok sc (fun vs H Q E h => (spF_len vs H Q E h).trans hl) fun cdv A outer s H vs Q E hr hsp => ?_
      have hroom := hr.mono (j := 3) (by omega)
      refine ⟨_, r.p _ (fun cls d _ H => E cls d H) XR ⟨rfl, sc.nd, rfl, sc.kind, rfl, fun x _ _ => .inl rfl, ?_, ?_, fun x g hx => ?_, fun x hx => h.bl x hx⟩ ⟨passes_of rfl, rfl, rfl⟩, body_ok hsp⟩
      · exact L2.takes_of rfl rfl rfl rfl
      · have := hroom.un
        show (A.deeper _).units + 100 < cLine
        omega
      · rcases List.mem_append.mp (PySem.mem_of_lookup hx) with z | z
        · exact h.con _ rfl rfl rfl rfl hroom (x, g) z
        · obtain ⟨j, d', h1, h2, h3⟩ := gvs_mem z
          obtain ⟨q', f', fd', F', hm, hb⟩ := h.df d' (List.mem_of_getElem? h1)
          rw [h3, h2, Nat.zero_add]
          exact ⟨f', fd', d'.ps, k + 4, Sy.ok h base k j d' h1 F', hr.mono (Nat.le_refl _), hm, F'.kp, hb⟩
end Rf
end
section
set_option Elab.async false
set_option linter.all false
set_option maxRecDepth 100000
set_option maxHeartbeats 2000000
/-! Rf, part Hd: what the head of a text must show, as Bools of the written part. -/
namespace Rf
open PySem PySem.Spec PyProof.Rows L2
/-! ### constants -/
mutual
def dB (K : PySem.W.Frag) : D → Value → Bool
  | .int i, .int j _ => decide (i = j)
  | .bool b, .bool c => b == c
  | .none, .none => true
  | .str x, .str y _ => decide (x = y)
  | .tuple ds, .ref a => match K.lookup a with
    | some ⟨.type c, _, .seq its _, _⟩ => decide (c = "tuple") && (decide (its.size ≤ sizeLine) && dBs K ds its.toList)
    | _ => false
  | _, _ => false
def dBs (K : PySem.W.Frag) : List D → List Value → Bool
  | [], [] => true
  | d :: ds, u :: us => dB K d u && dBs K ds us
  | _, _ => false
end
section
variable {P : Program} {w : World} {K : PySem.W.Frag}
mutual
theorem dB_ok : ∀ {d : D} {u : Value}, dB K d u = true → ∃ v, RelV v u ∧ ∀ S H, Dn P w K S H v d
  | .int i, u, h => by
    cases u with
    | int j t => exact ⟨.int i, ⟨t, by rw [of_decide_eq_true (show decide (i = j) = true from h)]⟩, fun _ _ => .int i⟩
    | _ => cases h
  | .bool b, u, h => by
    cases u with
    | bool c =>
      have e : b = c := eq_of_beq (show (b == c) = true from h)
      exact ⟨.bl b, by rw [e]; rfl, fun _ _ => .bl b⟩
    | _ => cases h
  | .none, u, h => by
    cases u with
    | none => exact ⟨.non, rfl, fun _ _ => .non⟩
    | _ => cases h
  | .str x, u, h => by
    cases u with
    | str y t => exact ⟨.str x, ⟨t, by rw [of_decide_eq_true (show decide (x = y) = true from h)]⟩, fun _ _ => .str x⟩
    | _ => cases h
  | .tuple ds, u, h => by
    cases u with
    | ref a =>
      have h1 : (match K.lookup a with
        | some ⟨.type c, _, .seq its _, _⟩ => decide (c = "tuple") && (decide (its.size ≤ sizeLine) && dBs K ds its.toList)
        | _ => false) = true := h
      cases q : K.lookup a with
      | none => rw [q] at h1; cases h1
      | some o =>
        obtain ⟨oc, od, dt, osl⟩ := o
        rw [q] at h1
        cases oc with
        | type c =>
          cases dt with
          | seq its n =>
            obtain ⟨z1, z2⟩ := He.ba (show (decide (c = "tuple") && (decide (its.size ≤ sizeLine) && dBs K ds its.toList)) = true from h1)
            obtain ⟨z3, z4⟩ := He.ba z2
            obtain ⟨vs, r, dn⟩ := dBs_ok z4
            exact ⟨.ref a, rfl, fun S H => .tup (.inr (.inr ⟨_, its, n, q, congrArg Value.type (of_decide_eq_true z1), rfl, of_decide_eq_true z3, r⟩)) (dn S H)⟩
          | _ => cases h1
        | _ => cases dt <;> cases h1
    | _ => cases h
  | .list _, u, h => by cases u <;> cases h
  | .dict _, u, h => by cases u <;> cases h
theorem dBs_ok : ∀ {ds : List D} {us : List Value}, dBs K ds us = true → ∃ vs, Vals vs us ∧ ∀ S H, DnAll P w K S H vs ds
  | [], us, h => by
    cases us with
    | nil => exact ⟨[], .nil, fun _ _ => .nil⟩
    | cons _ _ => cases h
  | d :: ds, us, h => by
    cases us with
    | nil => cases h
    | cons u us =>
      obtain ⟨h1, h2⟩ := He.ba (show (dB K d u && dBs K ds us) = true from h)
      obtain ⟨v, r, q⟩ := dB_ok h1
      obtain ⟨vs, rs, qs⟩ := dBs_ok h2
      exact ⟨v :: vs, .cons r rs, fun S H => .cons (q S H) (qs S H)⟩
end
end
/-- the module's name x is this -/
def conD (K : PySem.W.Frag) (x : Str) (d : D) : Bool := match PySem.W.nsIn K mainGlobals x with
  | some (some u) => dB K d u
  | _ => false
theorem conD_ok {P : Program} {w : World} {K : PySem.W.Frag} {h : Heap} {mg : Str → Option Value} (X : K.In h) (G : h.Ns mainGlobals mg) {x : Str} {d : D} (c : conD K x d = true) : ∃ u v, mg x = some u ∧ RelV v u ∧ ∀ S H, Dn P w K S H v d := by
  unfold conD at c
  split at c
  · rename_i u e
    obtain ⟨v, r, q⟩ := dB_ok (P := P) (w := w) c
    exact ⟨u, v, PySem.W.mg_of X G e, r, q⟩
  · cases c
def bltD (K : PySem.W.Frag) (x : Str) (n : String) : Bool := match PySem.W.nsIn K mainGlobals x with
  | some (some (.builtin m)) => decide (m = n)
  | _ => false
theorem bltD_ok {K : PySem.W.Frag} {h : Heap} {mg : Str → Option Value} (X : K.In h) (G : h.Ns mainGlobals mg) {x : Str} {n : String} (c : bltD K x n = true) : mg x = some (.builtin n) := by
  unfold bltD at c
  split at c
  · rename_i m e
    rw [PySem.W.mg_of X G e, of_decide_eq_true c]
  · cases c
/-! ### a class of exceptions with an __init__ -/
def exoB (K : PySem.W.Frag) (C : Addr) (newId : String) (tail : List Value) : Bool := match K.lookup C with
  | some ⟨.type "type", _, .cls cd, sl⟩ => (match cd.mro, sl.toList with
    | .ref C' :: bm, [_, _, _, _, some (.builtin n), _] => decide (C' = C) && (decide (n = newId) && (decide (cd.hasDel = false) && (decide (bm = tail) && decide (cd.hasDict = true))))
    | _, _ => false)
  | _ => false
theorem exoB_ok {K : PySem.W.Frag} {C : Addr} {newId : String} {tail : List Value} (h : exoB K C newId tail = true) :
    ∃ nm q N bs sn sub ab col dd k0 k1 k2 k3 k5, K.lookup C = some (excClassObj nm q C N bs tail true sn sub ab col dd k0 k1 k2 k3 k5 newId) := by
  unfold exoB at h
  split at h
  · rename_i dd cd sl ho
    split at h
    · rename_i C' bm k0 k1 k2 k3 n k5 hm hs
      simp only [Bool.and_eq_true, decide_eq_true_eq] at h
      obtain ⟨rfl, rfl, hdel, rfl, hd⟩ := h
      obtain ⟨nm, bs, mro, ns, qn, hd', sn, sub, ab, col, del⟩ := cd
      dsimp only at hm hdel hd
      subst hm hdel hd
      have hsl : sl = #[k0, k1, k2, k3, some (.builtin n), k5] := by
        obtain ⟨l⟩ := sl
        simp only at hs
        rw [hs]
      subst hsl
      exact ⟨nm, qn, ns, bs, sn, sub, ab, col, dd, k0, k1, k2, k3, k5, ho⟩
    · cases h
  · cases h
/-- all that is asked of class x: field f, __init__, the built-in base -/
def clsD (K : PySem.W.Frag) (x f : Str) (base newId : String) (tail : List Value) : Bool :=
  let C := He.ga K x
  He.eqO (PySem.W.nsIn K mainGlobals x) (some (some (.ref C))) && (exoB K C newId tail && (He.eqO (PySem.W.findIn K (.ref C) "__setattr__") (some (some (.builtin "object.__setattr__"))) && (decide (PySem.W.subIn K (.ref C) (.type "BaseException") = some true) &&
  (decide (PySem.W.typeIn K (.ref C) = some (.type "type")) && (PySem.W.keepIn K (.ref C) && (He.eqO (PySem.W.findIn K (.ref C) "__init__") (some (some (.ref (He.fAd K (x, some "__init__"))))) && (decide (PySem.W.typeIn K (.ref (He.fAd K (x, some "__init__"))) = some (.type "function")) &&
  (He.eqO (PySem.W.findIn K (.ref C) f) (some none) && (He.eqO (PySem.W.findIn K (.ref C) "__getattribute__") (some (some (.builtin "BaseException.__getattribute__"))) && (He.eqO (PySem.W.findIn K (.ref C) "__getattr__") (some none) && (PySem.W.hasDictIn K C &&
  (He.eqO (PySem.W.findIn K (.ref C) "__class__") (some (some (.builtin "object.__class__"))) && (He.eqO (PySem.W.specialIn K (.builtin "object.__class__") "__get__") (some (some (.builtin "getset_descriptor.__get__"))) && (decide (PySem.W.takesIn K (.builtin "object.__class__") = some true) && (decide (PySem.W.mroIn K C (.type "object") = some true) &&
  (decide (PySem.W.exmOne K (.ref C) (.ref C) = some true) && decide (PySem.W.kitOne K (.ref C) (.type base) = some true)))))))))))))))))
structure ClsI (K : PySem.W.Frag) (x f : Str) (base newId : String) (tail : List Value) : Prop where
  gl : PySem.W.nsIn K mainGlobals x = some (some (.ref (He.ga K x)))
  exo : ExO K (He.ga K x) newId tail
  ini : PySem.W.findIn K (.ref (He.ga K x)) "__init__" = some (some (.ref (He.fAd K (x, some "__init__"))))
  ity : PySem.W.typeIn K (.ref (He.fAd K (x, some "__init__"))) = some (.type "function")
  cat : CatF K (He.ga K x) f base
theorem clsD_ok {K : PySem.W.Frag} {x f : Str} {base newId : String} {tail : List Value} (h : clsD K x f base newId tail = true) : ClsI K x f base newId tail := by
  unfold clsD at h
  obtain ⟨h1, h⟩ := He.ba h
  obtain ⟨h2, h⟩ := He.ba h
  obtain ⟨h3, h⟩ := He.ba h
  obtain ⟨h4, h⟩ := He.ba h
  obtain ⟨h5, h⟩ := He.ba h
  obtain ⟨h6, h⟩ := He.ba h
  obtain ⟨h7, h⟩ := He.ba h
  obtain ⟨h8, h⟩ := He.ba h
  obtain ⟨h9, h⟩ := He.ba h
  obtain ⟨h10, h⟩ := He.ba h
  obtain ⟨h11, h⟩ := He.ba h
  obtain ⟨h12, h⟩ := He.ba h
  obtain ⟨h13, h⟩ := He.ba h
  obtain ⟨h14, h⟩ := He.ba h
  obtain ⟨h15, h⟩ := He.ba h
  obtain ⟨h16, h⟩ := He.ba h
  obtain ⟨h17, h18⟩ := He.ba h
  exact ⟨He.eqO_ok h1, ⟨exoB_ok h2, He.eqO_ok h3, of_decide_eq_true h4, of_decide_eq_true h5, h6⟩, He.eqO_ok h7, of_decide_eq_true h8,
    ⟨⟨He.eqO_ok h10, He.eqO_ok h11, of_decide_eq_true h4, h12, He.eqO_ok h13, He.eqO_ok h14, of_decide_eq_true h15, of_decide_eq_true h16⟩, ⟨He.eqO_ok h10, He.eqO_ok h11, of_decide_eq_true h4, h12⟩, He.eqO_ok h9, of_decide_eq_true h17, of_decide_eq_true h18⟩⟩
/-- how exceptions of class C are told: number 0, their one field -/
def xrOf (C : Addr) (f : Str) : XRep := fun n es cls d H => n = 0 ∧ cls = .ref C ∧ ∃ (i : Int) (dx : Addr) (fs : List (Str × V)), es = [.int i] ∧ d = some dx ∧ H dx = some (.xd fs) ∧ fs.lookup f = some (.int i)
theorem xr_at (C : Addr) (f : Str) : XrAt (xrOf C f) C 0 f := fun i dx H fs h1 h2 => ⟨rfl, rfl, i, dx, fs, rfl, rfl, h1, h2⟩
theorem xr_of (C : Addr) (f : Str) : XrOf (xrOf C f) C 0 f := fun es cls d H ⟨_, h1, h2⟩ => ⟨h1, h2⟩
/-! ### the end -/
open PySem.W in
theorem walk_ofBE {l : PySem.W.OpenLaw} {n k : Nat} {q : Program} {loose : List Str} {XP : (Str → Option Value) → Heap → Prop} {YP : World → Heap → Prop} {d : DefRec} {x : Str}
    (hn : l.most = some n) (hn2 : n ≤ sizeLine) (hdf : d.params.defaults = []) (hr : Room k callerA)
    (F : ∀ (w : World) (mg : Str → Option Value) (fa : Addr) (h : Heap), YP w h → h.Ns mainGlobals mg → mg d.name = some (.ref fa) →
      ∃ (K : PySem.W.Frag) (fd : FuncData) (sp : Sp), K.In h ∧ (∀ (s : Shared) (u : Value), BindsTo s fd ⟨[u], []⟩ [(x, u)]) ∧
        (∀ (H : Hp) (a : Addr) (ns : List Int), ns.length ≤ n → (∀ z ∈ ns, Builtin.Int.intBits z ≤ 1048576) → Only H → SqL K H a (ns.map V.int) → sp [.ref a] H (fun v _ => v = .bl true) fun _ _ _ => False) ∧
        ∀ base : Heap, K.In base → base.Ns mainGlobals mg → FnOk l.prog w K mg base (L2.CX l.prog w) k fa fd [x] sp) :
    PySem.W.WalkO q loose XP YP l.row.toRowW d [] (fun f vs => PySem.call f vs) := by
  refine Att.attach_callB hn hdf fun w s₀ s₁ mg mb fa o pm cd doc a vs ns G Y ho hd hcd hmg hobj hints hlen hbits hg => ?_
  obtain ⟨K, fd, sp, KX, hb, hsp, hF⟩ := F w mg fa _ Y G.T.g hmg
  exact law_call KX G.T.g G.T.b G.T.builtins G.T.nolimit hg hobj hints (Nat.le_trans hlen hn2) hr hF hb (fun H hO hS => hsp H a ns hlen hbits hO hS) fun H e s' ⟨_, _, _, _, _, _, _, _, _, _, _, _, z⟩ => z
theorem dn_ints0 {P : Program} {w : World} {K : PySem.W.Frag} {S : Addr → Prop} {H : Hp} : ∀ ns : List Int, DnAll P w K S H (ns.map V.int) (ns.map PyData.int)
  | [] => .nil
  | i :: ns => .cons (.int i) (dn_ints0 ns)
/-- one list of whole numbers handed in -/
theorem law_sp {P : Program} {w : World} {K : PySem.W.Frag} {XR : XRep} {f : Fn} {md : Md} (hm : md = .bo ∨ md = .dt) {H : Hp} {a : Addr} {ns : List Int} (hS : SqL K H a (ns.map V.int)) (e : f [.list (ns.map .int)] = .ok (.bool true) []) :
    spF P w K XR [md] false f [.ref a] H (fun v _ => v = .bl true) fun _ _ _ => False := by
  have tr : TrL K (fun _ => True) H a (ns.map V.int) := by
    rcases hS with h | h
    · exact .inl ⟨trivial, h⟩
    · exact .inr (.inr h)
  have dn : Dn P w K (fun _ => True) H (.ref a) (.list (ns.map .int)) := .lst tr (dn_ints0 ns)
  refine ⟨fun _ => True, [], [.list (ns.map .int)], fun _ _ => trivial, ?_, ?_⟩
  · rcases hm with rfl | rfl
    · exact .bo (.inl dn) .nil
    · exact .dt dn .nil
  · rw [e]
    intro v H' _ hb
    obtain ⟨_, hb⟩ := show Obs P w K _ H' [] [] ∧ Dn P w K _ H' v (.bool true) from hb
    cases hb
    rfl
end Rf
end
section
set_option Elab.async false
set_option linter.all false
set_option maxRecDepth 100000
namespace Rf
open PySem PySem.Spec L2
def top (i : Nat) : Stmt := PySem.Challenge.pw_ruledsums_k00_words_mixes_sums_by_own_re.main.body.getD i (.Pass ⟨0, 0, 0, 0⟩)
def dfs : List Df := [
  ⟨"is_number", top 6, [("thing" : Str)], [("thing" : Str)], [.dt], false, []⟩,
  ⟨"is_count", top 7, [("thing" : Str)], [("thing" : Str)], [.dt], false, []⟩,
  ⟨"is_tuple_of", top 8, [("thing" : Str), ("size" : Str)], [("thing" : Str), ("size" : Str)], [.dt, .dt], false, []⟩,
  ⟨"is_fraction", top 9, [("thing" : Str)], [("thing" : Str)], [.dt], false, []⟩,
  ⟨"tupled", top 10, [("thing" : Str)], [("thing" : Str), ("part" : Str)], [.dt], false, []⟩,
  ⟨"rises", top 11, [("thing" : Str)], [("thing" : Str), ("near" : Str), ("far" : Str)], [.dt], false, []⟩,
  ⟨"set_of", top 12, [("things" : Str)], [("things" : Str)], [.dt], false, []⟩,
  ⟨"part_of", top 13, [("top" : Str), ("bottom" : Str)], [("top" : Str), ("bottom" : Str), ("common" : Str)], [.dt, .dt], false, []⟩,
  ⟨"part_plus", top 14, [("one" : Str), ("other" : Str)], [("one" : Str), ("other" : Str)], [.dt, .dt], false, []⟩,
  ⟨"part_times", top 15, [("one" : Str), ("other" : Str)], [("one" : Str), ("other" : Str)], [.dt, .dt], false, []⟩,
  ⟨"is_plain_word", top 18, [("thing" : Str), ("methods" : Str)], [("thing" : Str), ("methods" : Str), ("method" : Str)], [.dt, .dt], false, []⟩,
  ⟨"is_plain_mix", top 19, [("thing" : Str), ("methods" : Str)], [("thing" : Str), ("methods" : Str), ("pair" : Str), ("word" : Str), ("part" : Str), ("_" : Str)], [.dt, .dt], false, []⟩,
  ⟨"is_plain_sum", top 20, [("thing" : Str), ("size" : Str), ("methods" : Str)], [("thing" : Str), ("size" : Str), ("methods" : Str), ("mix" : Str)], [.dt, .dt, .dt], false, []⟩,
  ⟨"ordered", top 21, [("parts" : Str)], [("parts" : Str), ("words" : Str), ("word" : Str), ("_" : Str)], [.bo], false, []⟩,
  ⟨"mix_of", top 22, [("pairs" : Str)], [("pairs" : Str), ("parts" : Str), ("word" : Str), ("part" : Str)], [.dt], false, [("parts" : Str)]⟩,
  ⟨"sum_of", top 23, [("terms" : Str), ("size" : Str)], [("terms" : Str), ("size" : Str), ("own" : Str), ("_" : Str), ("spot" : Str), ("word" : Str), ("place" : Str), ("part" : Str), ("number" : Str)], [.dt, .dt], false, []⟩,
  ⟨"mix_added", top 24, [("one" : Str), ("other" : Str)], [("one" : Str), ("other" : Str)], [.dt, .dt], false, []⟩,
  ⟨"mix_times", top 25, [("mix" : Str), ("part" : Str)], [("mix" : Str), ("part" : Str), ("much" : Str), ("word" : Str), ("own" : Str)], [.dt, .dt], false, []⟩,
  ⟨"multiplied", top 26, [("one" : Str), ("other" : Str)], [("one" : Str), ("other" : Str), ("parts" : Str), ("far" : Str), ("word" : Str), ("part" : Str), ("end" : Str), ("much" : Str), ("whole" : Str)], [.dt, .dt], false, [("parts" : Str)]⟩,
  ⟨"mix_power", top 27, [("mix" : Str), ("times" : Str)], [("mix" : Str), ("times" : Str), ("found" : Str), ("_" : Str)], [.dt, .dt], false, []⟩,
  ⟨"added", top 28, [("line" : Str), ("other_line" : Str)], [("line" : Str), ("other_line" : Str), ("one" : Str), ("other" : Str)], [.dt, .dt], false, []⟩,
  ⟨"times_much", top 29, [("line" : Str), ("part" : Str)], [("line" : Str), ("part" : Str), ("mix" : Str)], [.dt, .dt], false, []⟩,
  ⟨"put_ahead", top 30, [("mix" : Str), ("line" : Str)], [("mix" : Str), ("line" : Str), ("own" : Str)], [.dt, .dt], false, []⟩,
  ⟨"put_behind", top 31, [("line" : Str), ("mix" : Str)], [("line" : Str), ("mix" : Str), ("own" : Str)], [.dt, .dt], false, []⟩,
  ⟨"terms_of", top 32, [("line" : Str)], [("line" : Str), ("found" : Str), ("spot" : Str), ("mix" : Str), ("word" : Str), ("part" : Str), ("_" : Str)], [.dt], false, [("found" : Str)]⟩,
  ⟨"head_of", top 33, [("line" : Str)], [("line" : Str), ("terms" : Str)], [.dt], false, []⟩,
  ⟨"length_of", top 34, [("line" : Str)], [("line" : Str), ("mix" : Str), ("word" : Str), ("_" : Str)], [.dt], false, []⟩,
  ⟨"front_of", top 35, [("word" : Str), ("end" : Str)], [("word" : Str), ("end" : Str), ("own" : Str), ("last" : Str), ("cut" : Str)], [.dt, .dt], false, []⟩,
  ⟨"mix_turned", top 36, [("mix" : Str)], [("mix" : Str), ("word" : Str), ("part" : Str)], [.dt], false, []⟩,
  ⟨"methods_in", top 37, [("line" : Str)], [("line" : Str), ("mix" : Str), ("word" : Str), ("_" : Str), ("method" : Str)], [.dt], false, []⟩,
  ⟨"_law_box", top 39, [("script" : Str), ("k" : Str)], [("script" : Str), ("k" : Str), ("cell" : Str)], [.bo, .dt], true, []⟩,
  ⟨"_law_take", top 40, [("tin" : Str), ("below_so" : Str)], [("tin" : Str), ("below_so" : Str), ("drawn" : Str), ("once_so" : Str), ("wide_so" : Str), ("twice_so" : Str)], [.io, .dt], false, []⟩,
  ⟨"_law_cells", top 41, [("script" : Str), ("most_so" : Str)], [("script" : Str), ("most_so" : Str), ("cells_so" : Str), ("k" : Str), ("cell_so" : Str), ("at_so" : Str)], [.bo, .dt], true, [("cells_so" : Str)]⟩,
  ⟨"_law_of", top 42, [("tin" : Str), ("goods_so" : Str)], [("tin" : Str), ("goods_so" : Str)], [.io, .bo], false, []⟩,
  ⟨"_law_same", top 43, [("got" : Str), ("due" : Str)], [("got" : Str), ("due" : Str), ("mine" : Str), ("its" : Str)], [.dt, .dt], false, []⟩,
  ⟨"_law_lists", top 44, [("matter" : Str)], [("matter" : Str), ("bit" : Str)], [.dt], false, []⟩,
  ⟨"_law_set", top 45, [("things" : Str)], [("things" : Str)], [.dt], false, []⟩,
  ⟨"_law_frac", top 46, [("top" : Str), ("bottom" : Str)], [("top" : Str), ("bottom" : Str), ("a" : Str), ("b" : Str), ("sign" : Str)], [.dt, .dt], false, []⟩,
  ⟨"_law_plus", top 47, [("one" : Str), ("other" : Str)], [("one" : Str), ("other" : Str)], [.dt, .dt], false, []⟩,
  ⟨"_law_times", top 48, [("one" : Str), ("other" : Str)], [("one" : Str), ("other" : Str)], [.dt, .dt], false, []⟩,
  ⟨"_law_sum", top 49, [("parts" : Str)], [("parts" : Str), ("found" : Str), ("part" : Str)], [.dt], false, []⟩,
  ⟨"_law_heard", top 50, [("terms" : Str), ("size" : Str)], [("terms" : Str), ("size" : Str), ("slip" : Str)], [.dt, .dt], false, []⟩,
  ⟨"_law_mix", top 51, [("pairs" : Str)], [("pairs" : Str), ("found" : Str), ("many" : Str), ("word" : Str), ("part" : Str), ("far" : Str), ("own" : Str)], [.dt], false, [("found" : Str)]⟩,
  ⟨"_law_product_of", top 52, [("one" : Str), ("other" : Str)], [("one" : Str), ("other" : Str), ("found" : Str), ("word" : Str), ("part" : Str), ("end" : Str), ("much" : Str)], [.dt, .dt], false, [("found" : Str)]⟩,
  ⟨"_law_word", top 53, [("tin" : Str), ("methods" : Str), ("most" : Str)], [("tin" : Str), ("methods" : Str), ("most" : Str), ("k" : Str)], [.io, .dt, .dt], false, []⟩,
  ⟨"_law_pairs", top 54, [("tin" : Str), ("methods" : Str), ("many" : Str)], [("tin" : Str), ("methods" : Str), ("many" : Str), ("found" : Str), ("k" : Str), ("word" : Str)], [.io, .dt, .dt], true, [("found" : Str)]⟩,
  ⟨"_law_wrong", top 55, [("tin" : Str), ("mix" : Str)], [("tin" : Str), ("mix" : Str), ("pair" : Str), ("k" : Str)], [.io, .dt], false, []⟩,
  ⟨"_law_rows", top 56, [("line" : Str)], [("line" : Str), ("found" : Str), ("place" : Str), ("mix" : Str), ("word" : Str), ("own" : Str)], [.dt], true, [("found" : Str)]⟩,
  ⟨"law", top 57, [("script" : Str)], [("script" : Str), ("tin" : Str), ("go_no" : Str), ("methods" : Str), ("size" : Str), ("near" : Str), ("far" : Str), ("one" : Str), ("other" : Str), ("part" : Str), ("got" : Str), ("due" : Str), ("word" : Str), ("own" : Str), ("power" : Str), ("much" : Str), ("step" : Str), ("terms" : Str), ("line" : Str), ("place" : Str), ("number" : Str), ("mate" : Str), ("rows" : Str), ("listed" : Str), ("many" : Str), ("letters" : Str), ("a" : Str), ("b" : Str), ("mix" : Str), ("bad" : Str), ("k" : Str), ("free" : Str), ("row" : Str), ("end" : Str), ("whole" : Str), ("suits" : Str), ("goods" : Str), ("thing" : Str)], [.bo], false, [("tin" : Str)]⟩]
def bis : List Str := ["LookupError", "len", "abs", "int", "tuple", "list", "sorted", "all", "max", "isinstance", "range", "enumerate", "zip", "set", "bool", "str"]
def css : List (Str × Gv) := [("NONE", .con (.tuple [.int 0, .int 1])), ("FULL", .con (.tuple [.int 1, .int 1])), ("ONE", .con (.tuple [.tuple [.tuple [], .tuple [.int 1, .int 1]]])), ("gcd", .gcd), ("NoRegister", .cls 0 "number" "LookupError")]
def S0 : Sy := ⟨dfs, css, bis, 30⟩
theorem tall (T : Nat → Fn) : (dfs.all fun d => (S0.rd d T).isSome) = true := by kernel_rfl
end Rf
end
section
set_option Elab.async false
set_option linter.all false
set_option maxRecDepth 100000
set_option maxHeartbeats 0
/-! the defs of k00's text as M terms (printed by pm3.lean, mk00.py), checked by the kernel -/
namespace Rf
open PySem PySem.Spec L2
noncomputable def f0 (T : Nat → Fn) : MS :=
  seqM (rtM (andM (isM "int" (rdM 0)) (notM (isM "bool" (rdM 0))))) nxM
theorem u0 (T : Nat → Fn) : S0.up T 0 = fnOf [Md.dt] false (f0 T) := by kernel_rfl
noncomputable def f1 (T : Nat → Fn) : MS :=
  seqM (rtM (andM (callM (T 0) [Md.dt] [Ar.dt (vrM 0)]) (bin geD (rdM 0) (M.pure (PyData.int 0))))) nxM
theorem u1 (T : Nat → Fn) : S0.up T 1 = fnOf [Md.dt] false (f1 T) := by kernel_rfl
noncomputable def f2 (T : Nat → Fn) : MS :=
  seqM (rtM (andM (isM "tuple" (rdM 0)) (bin eqD (un1 lenD (rdM 0)) (rdM 1)))) nxM
theorem u2 (T : Nat → Fn) : S0.up T 2 = fnOf [Md.dt, Md.dt] false (f2 T) := by kernel_rfl
noncomputable def f3 (T : Nat → Fn) : MS :=
  seqM (ifM (orT (notT (truM (callM (T 2) [Md.dt, Md.dt] [Ar.dt (vrM 0), Ar.dt (M.pure (PyData.int 2))]))) (orT (notT (truM (callM (T 0) [Md.dt] [Ar.dt (bin ixU (rdM 0) (M.pure (PyData.int 0)))]))) (notT (truM (callM (T 0) [Md.dt] [Ar.dt (bin ixU (rdM 0) (M.pure (PyData.int 1)))]))))) (seqM (rtM (M.pure (PyData.bool false))) nxM) nxM) (seqM (rtM (andM (bin geD (bin ixU (rdM 0) (M.pure (PyData.int 1))) (M.pure (PyData.int 1))) (bin eqD (bin gcdD (bin ixU (rdM 0) (M.pure (PyData.int 0))) (bin ixU (rdM 0) (M.pure (PyData.int 1)))) (M.pure (PyData.int 1))))) nxM)
theorem u3 (T : Nat → Fn) : S0.up T 3 = fnOf [Md.dt] false (f3 T) := by kernel_rfl
noncomputable def f4 (T : Nat → Fn) : MS :=
  seqM (rtM (iteM (truM (is2M "list" "tuple" (rdM 0))) (un1 tupD (compM (itsU (rdM 0)) [1] (stepM (Pat.nm 1) yesM (elM (callM (T 4) [Md.dt] [Ar.dt (vrM 1)]))))) (vrM 0))) nxM
theorem u4 (T : Nat → Fn) : S0.up T 4 = fnOf [Md.dt] false (f4 T) := by kernel_rfl
noncomputable def f5 (T : Nat → Fn) : MS :=
  seqM (rtM (un1 allD (compM (overM zipDs (consM (vrM 0) (consM (slM slD (rdM 0) (somePt (M.pure (PyData.int 1))) noPt) nilM))) [1, 2] (stepM (Pat.tp [Pat.nm 1, Pat.nm 2]) yesM (elM (bin ltD (rdM 1) (rdM 2))))))) nxM
theorem u5 (T : Nat → Fn) : S0.up T 5 = fnOf [Md.dt] false (f5 T) := by kernel_rfl
noncomputable def f6 (T : Nat → Fn) : MS :=
  seqM (rtM (un1 tupD (un1 srtSetD (rdM 0)))) nxM
theorem u6 (T : Nat → Fn) : S0.up T 6 = fnOf [Md.dt] false (f6 T) := by kernel_rfl
noncomputable def f7 (T : Nat → Fn) : MS :=
  seqM (asM (Pat.nm 2) (bin gcdD (rdM 0) (rdM 1))) (seqM (ifM (tstM (bin ltD (rdM 1) (M.pure (PyData.int 0)))) (seqM (asM (Pat.nm 2) (negM (rdM 2))) nxM) nxM) (seqM (rtM (tupM (consM (bin fdivD (rdM 0) (rdM 2)) (consM (bin fdivD (rdM 1) (rdM 2)) nilM)))) nxM))
theorem u7 (T : Nat → Fn) : S0.up T 7 = fnOf [Md.dt, Md.dt] false (f7 T) := by kernel_rfl
noncomputable def f8 (T : Nat → Fn) : MS :=
  seqM (ifM (andT (tstM (bin eqD (bin ixU (rdM 0) (M.pure (PyData.int 1))) (M.pure (PyData.int 1)))) (tstM (bin eqD (bin ixU (rdM 1) (M.pure (PyData.int 1))) (M.pure (PyData.int 1))))) (seqM (rtM (tupM (consM (bin addU (bin ixU (rdM 0) (M.pure (PyData.int 0))) (bin ixU (rdM 1) (M.pure (PyData.int 0)))) (consM (M.pure (PyData.int 1)) nilM)))) nxM) nxM) (seqM (rtM (callM (T 7) [Md.dt, Md.dt] [Ar.dt (bin addU (bin mulD (bin ixU (rdM 0) (M.pure (PyData.int 0))) (bin ixU (rdM 1) (M.pure (PyData.int 1)))) (bin mulD (bin ixU (rdM 1) (M.pure (PyData.int 0))) (bin ixU (rdM 0) (M.pure (PyData.int 1))))), Ar.dt (bin mulD (bin ixU (rdM 0) (M.pure (PyData.int 1))) (bin ixU (rdM 1) (M.pure (PyData.int 1))))])) nxM)
theorem u8 (T : Nat → Fn) : S0.up T 8 = fnOf [Md.dt, Md.dt] false (f8 T) := by kernel_rfl
noncomputable def f9 (T : Nat → Fn) : MS :=
  seqM (ifM (andT (tstM (bin eqD (bin ixU (rdM 0) (M.pure (PyData.int 1))) (M.pure (PyData.int 1)))) (tstM (bin eqD (bin ixU (rdM 1) (M.pure (PyData.int 1))) (M.pure (PyData.int 1))))) (seqM (rtM (tupM (consM (bin mulD (bin ixU (rdM 0) (M.pure (PyData.int 0))) (bin ixU (rdM 1) (M.pure (PyData.int 0)))) (consM (M.pure (PyData.int 1)) nilM)))) nxM) nxM) (seqM (rtM (callM (T 7) [Md.dt, Md.dt] [Ar.dt (bin mulD (bin ixU (rdM 0) (M.pure (PyData.int 0))) (bin ixU (rdM 1) (M.pure (PyData.int 0)))), Ar.dt (bin mulD (bin ixU (rdM 0) (M.pure (PyData.int 1))) (bin ixU (rdM 1) (M.pure (PyData.int 1))))])) nxM)
theorem u9 (T : Nat → Fn) : S0.up T 9 = fnOf [Md.dt, Md.dt] false (f9 T) := by kernel_rfl
noncomputable def f10 (T : Nat → Fn) : MS :=
  seqM (rtM (andM (isM "tuple" (rdM 0)) (un1 allD (compM (itsU (rdM 0)) [2] (stepM (Pat.nm 2) yesM (elM (andM (callM (T 1) [Md.dt] [Ar.dt (vrM 2)]) (bin ltD (rdM 2) (rdM 1))))))))) nxM
theorem u10 (T : Nat → Fn) : S0.up T 10 = fnOf [Md.dt, Md.dt] false (f10 T) := by kernel_rfl
noncomputable def f11 (T : Nat → Fn) : MS :=
  seqM (ifM (orT (notT (truM (isM "tuple" (rdM 0)))) (notT (truM (un1 allD (compM (itsU (rdM 0)) [2] (stepM (Pat.nm 2) yesM (elM (callM (T 2) [Md.dt, Md.dt] [Ar.dt (vrM 2), Ar.dt (M.pure (PyData.int 2))])))))))) (seqM (rtM (M.pure (PyData.bool false))) nxM) nxM) (seqM (ifM (notT (truM (un1 allD (compM (itsU (rdM 0)) [3, 4] (stepM (Pat.tp [Pat.nm 3, Pat.nm 4]) yesM (elM (andM (callM (T 10) [Md.dt, Md.dt] [Ar.dt (vrM 3), Ar.dt (vrM 1)]) (andM (callM (T 3) [Md.dt] [Ar.dt (vrM 4)]) (bin neD (rdM 4) (M.pure (PyData.tuple [PyData.int 0, PyData.int 1]))))))))))) (seqM (rtM (M.pure (PyData.bool false))) nxM) nxM) (seqM (rtM (callM (T 5) [Md.dt] [Ar.dt (compM (itsU (rdM 0)) [3, 5] (stepM (Pat.tp [Pat.nm 3, Pat.nm 5]) yesM (elM (tupM (consM (un1 lenD (rdM 3)) (consM (vrM 3) nilM))))))])) nxM))
theorem u11 (T : Nat → Fn) : S0.up T 11 = fnOf [Md.dt, Md.dt] false (f11 T) := by kernel_rfl
noncomputable def f12 (T : Nat → Fn) : MS :=
  seqM (rtM (andM (callM (T 2) [Md.dt, Md.dt] [Ar.dt (vrM 0), Ar.dt (vrM 1)]) (un1 allD (compM (itsU (rdM 0)) [3] (stepM (Pat.nm 3) yesM (elM (callM (T 11) [Md.dt, Md.dt] [Ar.dt (vrM 3), Ar.dt (vrM 2)]))))))) nxM
theorem u12 (T : Nat → Fn) : S0.up T 12 = fnOf [Md.dt, Md.dt, Md.dt] false (f12 T) := by kernel_rfl
noncomputable def f13 (T : Nat → Fn) : MS :=
  seqM (asM (Pat.nm 1) (un1 srtD (compM (itsU (rdM 0)) [2] (stepM (Pat.nm 2) (tstM (bin neD (bin ixU (rdM 0) (rdM 2)) (M.pure (PyData.tuple [PyData.int 0, PyData.int 1])))) (elM (tupM (consM (un1 lenD (rdM 2)) (consM (vrM 2) nilM)))))))) (seqM (rtM (un1 tupD (compM (itsU (rdM 1)) [3, 2] (stepM (Pat.tp [Pat.nm 3, Pat.nm 2]) yesM (elM (tupM (consM (vrM 2) (consM (bin ixU (rdM 0) (rdM 2)) nilM)))))))) nxM)
theorem u13 (T : Nat → Fn) : S0.up T 13 = fnOf [Md.bo] false (f13 T) := by kernel_rfl
noncomputable def f14 (T : Nat → Fn) : MS :=
  seqM (asMu 1 (M.pure (PyData.dict []))) (seqM (forM' (itsU (callM (T 4) [Md.dt] [Ar.dt (vrM 0)])) (Pat.tp [Pat.nm 2, Pat.nm 3]) (seqM (setXM 1 (vrM 2) (callM (T 8) [Md.dt, Md.dt] [Ar.dt (getM (rdM 1) (consM (vrM 2) (consM (M.pure (PyData.tuple [PyData.int 0, PyData.int 1])) nilM))), Ar.dt (vrM 3)])) nxM)) (seqM (rtM (callM (T 13) [Md.bo] [Ar.nm 1])) nxM))
theorem u14 (T : Nat → Fn) : S0.up T 14 = fnOf [Md.dt] false (f14 T) := by kernel_rfl
noncomputable def f15 (T : Nat → Fn) : MS :=
  seqM (asM (Pat.nm 2) (callM (T 4) [Md.dt] [Ar.dt (vrM 0)])) (seqM (forM' (itsM (wvM 2)) (Pat.tp [Pat.nm 3, Pat.nm 4, Pat.nm 3]) (seqM (ifM (notT (tstM (chM leD ltD (M.pure (PyData.int 0)) (rdM 4) (rdM 1)))) (seqM (raiseM 0 (rdM 4)) nxM) nxM) nxM)) (seqM (rtM (un1 tupD (compM (overM rng1D (consM (vrM 1) nilM)) [8] (stepM (Pat.nm 8) yesM (elM (callM (T 14) [Md.dt] [Ar.dt (compM (itsU (rdM 2)) [5, 6, 7] (stepM (Pat.tp [Pat.nm 5, Pat.nm 6, Pat.nm 7]) (tstM (bin eqD (rdM 6) (rdM 8))) (elM (tupM (consM (vrM 5) (consM (vrM 7) nilM))))))])))))) nxM))
theorem u15 (T : Nat → Fn) : S0.up T 15 = fnOf [Md.dt, Md.dt] false (f15 T) := by kernel_rfl
noncomputable def f16 (T : Nat → Fn) : MS :=
  seqM (rtM (callM (T 14) [Md.dt] [Ar.dt (tupM (starM (callM (T 4) [Md.dt] [Ar.dt (vrM 0)]) (starM (callM (T 4) [Md.dt] [Ar.dt (vrM 1)]) nilM)))])) nxM
theorem u16 (T : Nat → Fn) : S0.up T 16 = fnOf [Md.dt, Md.dt] false (f16 T) := by kernel_rfl
noncomputable def f17 (T : Nat → Fn) : MS :=
  seqM (asM (Pat.nm 2) (callM (T 4) [Md.dt] [Ar.dt (vrM 1)])) (seqM (rtM (callM (T 14) [Md.dt] [Ar.dt (compM (itsU (callM (T 4) [Md.dt] [Ar.dt (vrM 0)])) [3, 4] (stepM (Pat.tp [Pat.nm 3, Pat.nm 4]) yesM (elM (tupM (consM (vrM 3) (consM (callM (T 9) [Md.dt, Md.dt] [Ar.dt (vrM 4), Ar.dt (vrM 2)]) nilM))))))])) nxM)
theorem u17 (T : Nat → Fn) : S0.up T 17 = fnOf [Md.dt, Md.dt] false (f17 T) := by kernel_rfl
noncomputable def f18 (T : Nat → Fn) : MS :=
  seqM (par2 2 3 true false (M.pure (PyData.dict [])) (callM (T 4) [Md.dt] [Ar.dt (vrM 1)])) (seqM (forM' (itsU (callM (T 4) [Md.dt] [Ar.dt (vrM 0)])) (Pat.tp [Pat.nm 4, Pat.nm 5]) (seqM (forM' (itsM (wvM 3)) (Pat.tp [Pat.nm 6, Pat.nm 7]) (seqM (asM (Pat.nm 8) (bin addU (rdM 4) (rdM 6))) (seqM (setXM 2 (vrM 8) (callM (T 8) [Md.dt, Md.dt] [Ar.dt (getM (rdM 2) (consM (vrM 8) (consM (M.pure (PyData.tuple [PyData.int 0, PyData.int 1])) nilM))), Ar.dt (callM (T 9) [Md.dt, Md.dt] [Ar.dt (vrM 5), Ar.dt (vrM 7)])])) nxM))) nxM)) (seqM (rtM (callM (T 13) [Md.bo] [Ar.nm 2])) nxM))
theorem u18 (T : Nat → Fn) : S0.up T 18 = fnOf [Md.dt, Md.dt] false (f18 T) := by kernel_rfl
noncomputable def f19 (T : Nat → Fn) : MS :=
  seqM (asM (Pat.nm 2) (M.pure (PyData.tuple [PyData.tuple [PyData.tuple [], PyData.tuple [PyData.int 1, PyData.int 1]]]))) (seqM (forM' (overM rng1D (consM (vrM 1) nilM)) (Pat.nm 3) (seqM (asM (Pat.nm 2) (callM (T 18) [Md.dt, Md.dt] [Ar.dt (vrM 2), Ar.dt (vrM 0)])) nxM)) (seqM (rtM (vrM 2)) nxM))
theorem u19 (T : Nat → Fn) : S0.up T 19 = fnOf [Md.dt, Md.dt] false (f19 T) := by kernel_rfl
noncomputable def f20 (T : Nat → Fn) : MS :=
  seqM (rtM (un1 tupD (compM (overM zipDs (consM (vrM 0) (consM (vrM 1) nilM))) [2, 3] (stepM (Pat.tp [Pat.nm 2, Pat.nm 3]) yesM (elM (callM (T 16) [Md.dt, Md.dt] [Ar.dt (vrM 2), Ar.dt (vrM 3)])))))) nxM
theorem u20 (T : Nat → Fn) : S0.up T 20 = fnOf [Md.dt, Md.dt] false (f20 T) := by kernel_rfl
noncomputable def f21 (T : Nat → Fn) : MS :=
  seqM (rtM (un1 tupD (compM (itsU (rdM 0)) [2] (stepM (Pat.nm 2) yesM (elM (callM (T 17) [Md.dt, Md.dt] [Ar.dt (vrM 2), Ar.dt (vrM 1)])))))) nxM
theorem u21 (T : Nat → Fn) : S0.up T 21 = fnOf [Md.dt, Md.dt] false (f21 T) := by kernel_rfl
noncomputable def f22 (T : Nat → Fn) : MS :=
  seqM (rtM (un1 tupD (compM (itsU (rdM 1)) [2] (stepM (Pat.nm 2) yesM (elM (callM (T 18) [Md.dt, Md.dt] [Ar.dt (vrM 0), Ar.dt (vrM 2)])))))) nxM
theorem u22 (T : Nat → Fn) : S0.up T 22 = fnOf [Md.dt, Md.dt] false (f22 T) := by kernel_rfl
noncomputable def f23 (T : Nat → Fn) : MS :=
  seqM (rtM (un1 tupD (compM (itsU (rdM 0)) [2] (stepM (Pat.nm 2) yesM (elM (callM (T 18) [Md.dt, Md.dt] [Ar.dt (vrM 2), Ar.dt (vrM 1)])))))) nxM
theorem u23 (T : Nat → Fn) : S0.up T 23 = fnOf [Md.dt, Md.dt] false (f23 T) := by kernel_rfl
noncomputable def f24 (T : Nat → Fn) : MS :=
  seqM (asMu 1 (lstM nilM)) (seqM (forM' (overM enumDs (consM (callM (T 4) [Md.dt] [Ar.dt (vrM 0)]) nilM)) (Pat.tp [Pat.nm 2, Pat.nm 3]) (seqM (drM (extM 1 (compM (itsU (rdM 3)) [4, 5] (stepM (Pat.tp [Pat.nm 4, Pat.nm 5]) yesM (elM (tupM (consM (un1 lenD (rdM 4)) (consM (vrM 4) (consM (vrM 2) (consM (vrM 5) nilM)))))))))) nxM)) (seqM (rtM (un1 tupD (compM (itsU (un1 rvD (un1 srtD (rdM 1)))) [6, 4, 2, 5] (stepM (Pat.tp [Pat.nm 6, Pat.nm 4, Pat.nm 2, Pat.nm 5]) yesM (elM (tupM (consM (vrM 4) (consM (vrM 2) (consM (vrM 5) nilM))))))))) nxM))
theorem u24 (T : Nat → Fn) : S0.up T 24 = fnOf [Md.dt] false (f24 T) := by kernel_rfl
noncomputable def f25 (T : Nat → Fn) : MS :=
  seqM (asM (Pat.nm 1) (callM (T 24) [Md.dt] [Ar.dt (vrM 0)])) (seqM (rtM (iteM (tstM (bin gtD (un1 lenD (rdM 1)) (M.pure (PyData.int 0)))) (bin ixU (rdM 1) (M.pure (PyData.int 0))) (M.pure PyData.none))) nxM)
theorem u25 (T : Nat → Fn) : S0.up T 25 = fnOf [Md.dt] false (f25 T) := by kernel_rfl
noncomputable def f26 (T : Nat → Fn) : MS :=
  seqM (rtM (un1 maxD (bin addU (lstM (consM (M.pure (PyData.int 0)) nilM)) (compM (itsU (rdM 0)) [1, 2, 3] (stepM (Pat.nm 1) yesM (clM (itsM (wvM 1)) [2, 3] (stepM (Pat.tp [Pat.nm 2, Pat.nm 3]) yesM (elM (un1 lenD (rdM 2)))))))))) nxM
theorem u26 (T : Nat → Fn) : S0.up T 26 = fnOf [Md.dt] false (f26 T) := by kernel_rfl
noncomputable def f27 (T : Nat → Fn) : MS :=
  seqM (par2 2 3 false false (callM (T 4) [Md.dt] [Ar.dt (vrM 0)]) (callM (T 4) [Md.dt] [Ar.dt (vrM 1)])) (seqM (asM (Pat.nm 4) (bin subD (un1 lenD (rdM 2)) (un1 lenD (rdM 3)))) (seqM (rtM (iteM (andT (tstM (bin geD (rdM 4) (M.pure (PyData.int 0)))) (tstM (bin eqD (slM slD (rdM 2) (somePt (rdM 4)) noPt) (rdM 3)))) (slM slD (rdM 2) noPt (somePt (rdM 4))) (M.pure PyData.none))) nxM))
theorem u27 (T : Nat → Fn) : S0.up T 27 = fnOf [Md.dt, Md.dt] false (f27 T) := by kernel_rfl
noncomputable def f28 (T : Nat → Fn) : MS :=
  seqM (rtM (callM (T 14) [Md.dt] [Ar.dt (compM (itsU (callM (T 4) [Md.dt] [Ar.dt (vrM 0)])) [1, 2] (stepM (Pat.tp [Pat.nm 1, Pat.nm 2]) yesM (elM (tupM (consM (un1 rvD (rdM 1)) (consM (vrM 2) nilM))))))])) nxM
theorem u28 (T : Nat → Fn) : S0.up T 28 = fnOf [Md.dt] false (f28 T) := by kernel_rfl
noncomputable def f29 (T : Nat → Fn) : MS :=
  seqM (rtM (callM (T 6) [Md.dt] [Ar.dt (compM (itsU (rdM 0)) [1, 2, 3, 4] (stepM (Pat.nm 1) yesM (clM (itsM (wvM 1)) [2, 3, 4] (stepM (Pat.tp [Pat.nm 2, Pat.nm 3]) yesM (clM (itsM (wvM 2)) [4] (stepM (Pat.nm 4) yesM (elM (vrM 4))))))))])) nxM
theorem u29 (T : Nat → Fn) : S0.up T 29 = fnOf [Md.dt] false (f29 T) := by kernel_rfl
noncomputable def f30 (T : Nat → Fn) : MS :=
  seqM (asM (Pat.nm 2) (iteM (tstM (bin ltD (rdM 1) (un1 lenD (rdM 0)))) (bin ixU (rdM 0) (rdM 1)) (M.pure (PyData.int 0)))) (seqM (rtM (lstM (consM (bin mulD (un1 absD (rdM 2)) (un1 intD (bin geD (un1 absD (rdM 2)) (bin powD (M.pure (PyData.int 10)) (M.pure (PyData.int 18)))))) (consM (bin addU (bin addU (bin modD (un1 intD (rdM 2)) (M.pure (PyData.int 2305843009213693951))) (bin mulD (M.pure (PyData.int 39373)) (rdM 1))) (M.pure (PyData.int 58147))) (consM (M.pure (PyData.int 0)) nilM))))) nxM)
theorem u30 (T : Nat → Fn) : S0.up T 30 = fnOf [Md.bo, Md.dt] true (f30 T) := by kernel_rfl
noncomputable def f31 (T : Nat → Fn) : MS :=
  seqM (ifM (tstM (bin gtD (bin ixU (rdM 0) (M.pure (PyData.int 0))) (M.pure (PyData.int 0)))) (seqM (asM (Pat.nm 2) (bin modD (un1 intD (bin ixU (rdM 0) (M.pure (PyData.int 0)))) (rdM 1))) (seqM (setXM 0 (M.pure (PyData.int 0)) (bin fdivD (bin ixU (rdM 0) (M.pure (PyData.int 0))) (rdM 1))) (seqM (rtM (vrM 2)) nxM))) nxM) (seqM (setXM 0 (M.pure (PyData.int 2)) (bin addU (bin ixU (rdM 0) (M.pure (PyData.int 2))) (M.pure (PyData.int 1)))) (seqM (asM (Pat.nm 3) (bin modD (un1 intD (bin mulD (bin addU (bin ixU (rdM 0) (M.pure (PyData.int 1))) (bin mulD (M.pure (PyData.int 48271)) (bin ixU (rdM 0) (M.pure (PyData.int 2))))) (bin addU (M.pure (PyData.int 39373)) (bin ixU (rdM 0) (M.pure (PyData.int 2)))))) (M.pure (PyData.int 2147483647)))) (seqM (asM (Pat.nm 4) (bin addU (bin modD (un1 intD (rdM 3)) (M.pure (PyData.int 40009))) (M.pure (PyData.int 7)))) (seqM (asM (Pat.nm 5) (bin modD (un1 intD (bin mulD (bin addU (bin addU (rdM 3) (bin ixU (rdM 0) (M.pure (PyData.int 2)))) (bin fdivD (bin ixU (rdM 0) (M.pure (PyData.int 1))) (M.pure (PyData.int 1000003)))) (rdM 4))) (M.pure (PyData.int 2147483629)))) (seqM (rtM (bin modD (un1 intD (bin fdivD (bin modD (un1 intD (bin addU (bin mulD (rdM 5) (M.pure (PyData.int 48271))) (rdM 3))) (M.pure (PyData.int 2147483587))) (M.pure (PyData.int 64)))) (rdM 1))) nxM)))))
theorem u31 (T : Nat → Fn) : S0.up T 31 = fnOf [Md.io, Md.dt] false (f31 T) := by kernel_rfl
noncomputable def f32 (T : Nat → Fn) : MS :=
  seqM (asMu 2 (orM (un1 listD (slM slD (rdM 0) noPt (somePt (rdM 1)))) (lstM (consM (M.pure (PyData.int 0)) nilM)))) (seqM (forM' (overM enumDs (consM (slM slD (rdM 0) (somePt (rdM 1)) (somePt (M.pure (PyData.int 63)))) nilM)) (Pat.tp [Pat.nm 3, Pat.nm 4]) (seqM (asM (Pat.nm 5) (bin modD (un1 intD (rdM 3)) (rdM 1))) (seqM (setXM 2 (vrM 5) (bin addU (bin ixU (rdM 2) (rdM 5)) (bin mulD (rdM 4) (bin addU (rdM 3) (M.pure (PyData.int 2)))))) nxM))) (seqM (rtM (mvM 2)) nxM))
theorem u32 (T : Nat → Fn) : S0.up T 32 = fnOf [Md.bo, Md.dt] true (f32 T) := by kernel_rfl
noncomputable def f33 (T : Nat → Fn) : MS :=
  seqM (rtM (bin ixU (wvM 1) (callM (T 31) [Md.io, Md.dt] [Ar.nm 0, Ar.dt (un1 lenD (rdM 1))]))) nxM
theorem u33 (T : Nat → Fn) : S0.up T 33 = fnOf [Md.io, Md.bo] false (f33 T) := by kernel_rfl
noncomputable def f34 (T : Nat → Fn) : MS :=
  seqM (ifM (truM (is2M "list" "tuple" (rdM 1))) (seqM (ifM (orT (tstM (bin neD (isM "list" (rdM 0)) (isM "list" (rdM 1)))) (tstM (bin neD (isM "tuple" (rdM 0)) (isM "tuple" (rdM 1))))) (seqM (rtM (M.pure (PyData.bool false))) nxM) nxM) (seqM (rtM (andM (bin eqD (un1 lenD (rdM 0)) (un1 lenD (rdM 1))) (un1 allD (compM (overM zipDs (consM (vrM 0) (consM (vrM 1) nilM))) [2, 3] (stepM (Pat.tp [Pat.nm 2, Pat.nm 3]) yesM (elM (callM (T 34) [Md.dt, Md.dt] [Ar.dt (vrM 2), Ar.dt (vrM 3)]))))))) nxM)) nxM) (seqM (ifM (orT (tstM (bin isND (rdM 1) (M.pure PyData.none))) (truM (is2M "bool" "str" (rdM 1)))) (seqM (rtM (andM (bin eqD (rdM 0) (rdM 1)) (andM (bin eqD (isM "bool" (rdM 0)) (isM "bool" (rdM 1))) (bin eqD (bin isND (rdM 0) (M.pure PyData.none)) (bin isND (rdM 1) (M.pure PyData.none)))))) nxM) nxM) (seqM (rtM (andM (isM "int" (rdM 0)) (andM (notM (isM "bool" (rdM 0))) (bin eqD (rdM 0) (rdM 1))))) nxM))
theorem u34 (T : Nat → Fn) : S0.up T 34 = fnOf [Md.dt, Md.dt] false (f34 T) := by kernel_rfl
noncomputable def f35 (T : Nat → Fn) : MS :=
  seqM (rtM (iteM (truM (is2M "list" "tuple" (rdM 0))) (compM (itsU (rdM 0)) [1] (stepM (Pat.nm 1) yesM (elM (callM (T 35) [Md.dt] [Ar.dt (vrM 1)])))) (vrM 0))) nxM
theorem u35 (T : Nat → Fn) : S0.up T 35 = fnOf [Md.dt] false (f35 T) := by kernel_rfl
noncomputable def f36 (T : Nat → Fn) : MS :=
  seqM (rtM (un1 tupD (un1 srtSetD (rdM 0)))) nxM
theorem u36 (T : Nat → Fn) : S0.up T 36 = fnOf [Md.dt] false (f36 T) := by kernel_rfl
noncomputable def f37 (T : Nat → Fn) : MS :=
  seqM (par2 2 3 false false (un1 absD (rdM 0)) (un1 absD (rdM 1))) (seqM (whileM (tstM (bin gtD (rdM 3) (M.pure (PyData.int 0)))) (seqM (par2 2 3 false false (vrM 3) (bin modD (un1 intD (rdM 2)) (rdM 3))) nxM)) (seqM (asM (Pat.nm 4) (iteM (tstM (bin ltD (rdM 1) (M.pure (PyData.int 0)))) (negM (M.pure (PyData.int 1))) (M.pure (PyData.int 1)))) (seqM (rtM (tupM (consM (bin fdivD (bin mulD (rdM 4) (rdM 0)) (rdM 2)) (consM (bin fdivD (bin mulD (rdM 4) (rdM 1)) (rdM 2)) nilM)))) nxM)))
theorem u37 (T : Nat → Fn) : S0.up T 37 = fnOf [Md.dt, Md.dt] false (f37 T) := by kernel_rfl
noncomputable def f38 (T : Nat → Fn) : MS :=
  seqM (rtM (callM (T 37) [Md.dt, Md.dt] [Ar.dt (bin addU (bin mulD (bin ixU (rdM 0) (M.pure (PyData.int 0))) (bin ixU (rdM 1) (M.pure (PyData.int 1)))) (bin mulD (bin ixU (rdM 1) (M.pure (PyData.int 0))) (bin ixU (rdM 0) (M.pure (PyData.int 1))))), Ar.dt (bin mulD (bin ixU (rdM 0) (M.pure (PyData.int 1))) (bin ixU (rdM 1) (M.pure (PyData.int 1))))])) nxM
theorem u38 (T : Nat → Fn) : S0.up T 38 = fnOf [Md.dt, Md.dt] false (f38 T) := by kernel_rfl
noncomputable def f39 (T : Nat → Fn) : MS :=
  seqM (rtM (callM (T 37) [Md.dt, Md.dt] [Ar.dt (bin mulD (bin ixU (rdM 0) (M.pure (PyData.int 0))) (bin ixU (rdM 1) (M.pure (PyData.int 0)))), Ar.dt (bin mulD (bin ixU (rdM 0) (M.pure (PyData.int 1))) (bin ixU (rdM 1) (M.pure (PyData.int 1))))])) nxM
theorem u39 (T : Nat → Fn) : S0.up T 39 = fnOf [Md.dt, Md.dt] false (f39 T) := by kernel_rfl
noncomputable def f40 (T : Nat → Fn) : MS :=
  seqM (asM (Pat.nm 1) (tupM (consM (M.pure (PyData.int 0)) (consM (M.pure (PyData.int 1)) nilM)))) (seqM (forM' (itsM (wvM 0)) (Pat.nm 2) (seqM (asM (Pat.nm 1) (callM (T 38) [Md.dt, Md.dt] [Ar.dt (vrM 1), Ar.dt (vrM 2)])) nxM)) (seqM (rtM (vrM 1)) nxM))
theorem u40 (T : Nat → Fn) : S0.up T 40 = fnOf [Md.dt] false (f40 T) := by kernel_rfl
noncomputable def f41 (T : Nat → Fn) : MS :=
  seqM (tryM 0 (Str.ofString "NoRegister") (seqM (rtM (lstM (consM (M.pure (PyData.str (Str.ofString "told"))) (consM (callM (T 15) [Md.dt, Md.dt] [Ar.dt (vrM 0), Ar.dt (vrM 1)]) nilM)))) nxM)) nxM
theorem u41 (T : Nat → Fn) : S0.up T 41 = fnOf [Md.dt, Md.dt] false (f41 T) := by kernel_rfl
noncomputable def f42 (T : Nat → Fn) : MS :=
  seqM (asMu 1 (lstM nilM)) (seqM (forM' (itsU (un1 srtSetD (compM (itsU (rdM 0)) [3, 4] (stepM (Pat.tp [Pat.nm 3, Pat.nm 4]) yesM (elM (tupM (consM (un1 lenD (rdM 3)) (consM (vrM 3) nilM)))))))) (Pat.tp [Pat.nm 2, Pat.nm 3]) (seqM (asM (Pat.nm 4) (callM (T 40) [Md.dt] [Ar.dt (compM (itsU (rdM 0)) [5, 6] (stepM (Pat.tp [Pat.nm 5, Pat.nm 6]) (tstM (bin eqD (rdM 5) (rdM 3))) (elM (vrM 6))))])) (seqM (drM (extM 1 (iteM (tstM (bin neD (bin ixU (rdM 4) (M.pure (PyData.int 0))) (M.pure (PyData.int 0)))) (lstM (consM (tupM (consM (vrM 3) (consM (vrM 4) nilM))) nilM)) (lstM nilM)))) nxM))) (seqM (rtM (un1 tupD (rdM 1))) nxM))
theorem u42 (T : Nat → Fn) : S0.up T 42 = fnOf [Md.dt] false (f42 T) := by kernel_rfl
noncomputable def f43 (T : Nat → Fn) : MS :=
  seqM (asMu 2 (lstM nilM)) (seqM (forM' (itsM (wvM 0)) (Pat.tp [Pat.nm 3, Pat.nm 4]) (seqM (drM (extM 2 (compM (itsU (rdM 1)) [5, 6] (stepM (Pat.tp [Pat.nm 5, Pat.nm 6]) yesM (elM (tupM (consM (bin addU (rdM 3) (rdM 5)) (consM (callM (T 39) [Md.dt, Md.dt] [Ar.dt (vrM 4), Ar.dt (vrM 6)]) nilM)))))))) nxM)) (seqM (rtM (callM (T 42) [Md.dt] [Ar.dt (vrM 2)])) nxM))
theorem u43 (T : Nat → Fn) : S0.up T 43 = fnOf [Md.dt, Md.dt] false (f43 T) := by kernel_rfl
noncomputable def f44 (T : Nat → Fn) : MS :=
  seqM (rtM (un1 tupD (compM (overM rng1D (consM (callM (T 31) [Md.io, Md.dt] [Ar.nm 0, Ar.dt (bin addU (rdM 2) (M.pure (PyData.int 1)))]) nilM)) [3] (stepM (Pat.nm 3) yesM (elM (callM (T 31) [Md.io, Md.dt] [Ar.nm 0, Ar.dt (vrM 1)])))))) nxM
theorem u44 (T : Nat → Fn) : S0.up T 44 = fnOf [Md.io, Md.dt, Md.dt] false (f44 T) := by kernel_rfl
noncomputable def f45 (T : Nat → Fn) : MS :=
  seqM (asMu 3 (lstM nilM)) (seqM (forM' (overM rng1D (consM (callM (T 31) [Md.io, Md.dt] [Ar.nm 0, Ar.dt (bin addU (rdM 2) (M.pure (PyData.int 1)))]) nilM)) (Pat.nm 4) (seqM (asM (Pat.nm 5) (iteM (orT (tstM (bin eqD (rdM 3) (lstM nilM))) (tstM (bin gtD (callM (T 31) [Md.io, Md.dt] [Ar.nm 0, Ar.dt (M.pure (PyData.int 3))]) (M.pure (PyData.int 0))))) (callM (T 44) [Md.io, Md.dt, Md.dt] [Ar.nm 0, Ar.dt (vrM 1), Ar.dt (M.pure (PyData.int 3))]) (bin ixU (callM (T 33) [Md.io, Md.bo] [Ar.nm 0, Ar.nm 3]) (M.pure (PyData.int 0))))) (seqM (drM (appM 3 (tupM (consM (vrM 5) (consM (callM (T 37) [Md.dt, Md.dt] [Ar.dt (callM (T 33) [Md.io, Md.bo] [Ar.nm 0, Ar.dt (lstM (consM (M.pure (PyData.int 1)) (consM (negM (M.pure (PyData.int 1))) (consM (M.pure (PyData.int 2)) (consM (negM (M.pure (PyData.int 2))) (consM (M.pure (PyData.int 0)) (consM (M.pure (PyData.int 3)) nilM)))))))]), Ar.dt (bin addU (M.pure (PyData.int 1)) (callM (T 31) [Md.io, Md.dt] [Ar.nm 0, Ar.dt (M.pure (PyData.int 3))]))]) nilM))))) nxM))) (seqM (rtM (mvM 3)) nxM))
theorem u45 (T : Nat → Fn) : S0.up T 45 = fnOf [Md.io, Md.dt, Md.dt] true (f45 T) := by kernel_rfl
noncomputable def f46 (T : Nat → Fn) : MS :=
  seqM (asM (Pat.nm 2) (iteM (tstM (bin neD (rdM 1) (tupM nilM))) (bin ixU (rdM 1) (negM (M.pure (PyData.int 1)))) (tupM (consM (tupM (consM (M.pure (PyData.int 0)) nilM)) (consM (tupM (consM (M.pure (PyData.int 1)) (consM (M.pure (PyData.int 1)) nilM))) nilM))))) (seqM (asM (Pat.nm 3) (bin max2D (M.pure (PyData.int 0)) (bin subD (un1 lenD (rdM 1)) (M.pure (PyData.int 1))))) (seqM (rtM (lstM (consM (un1 listD (rdM 1)) (consM (iteM (tstM (bin neD (rdM 1) (tupM nilM))) (bin addU (rdM 1) (tupM (consM (vrM 2) nilM))) (M.pure PyData.none)) (consM (iteM (tstM (bin gtD (un1 lenD (rdM 1)) (M.pure (PyData.int 1)))) (un1 rvD (rdM 1)) (M.pure (PyData.int 0))) (consM (bin addU (slM slD (rdM 1) noPt (somePt (rdM 3))) (tupM (consM (tupM (consM (bin ixU (rdM 2) (M.pure (PyData.int 0))) (consM (tupM (consM (M.pure (PyData.int 0)) (consM (M.pure (PyData.int 1)) nilM))) nilM))) nilM))) (consM (bin addU (slM slD (rdM 1) noPt (somePt (rdM 3))) (tupM (consM (tupM (consM (bin ixU (rdM 2) (M.pure (PyData.int 0))) (consM (tupM (consM (M.pure (PyData.int 2)) (consM (M.pure (PyData.int 4)) nilM))) nilM))) nilM))) (consM (bin addU (slM slD (rdM 1) noPt (somePt (rdM 3))) (tupM (consM (tupM (consM (bin addU (bin ixU (rdM 2) (M.pure (PyData.int 0))) (tupM (consM (M.pure (PyData.int 9)) nilM))) (consM (bin ixU (rdM 2) (M.pure (PyData.int 1))) nilM))) nilM))) (consM (bin addU (slM slD (rdM 1) noPt (somePt (rdM 3))) (tupM (consM (tupM (consM (un1 listD (bin ixU (rdM 2) (M.pure (PyData.int 0)))) (consM (bin ixU (rdM 2) (M.pure (PyData.int 1))) nilM))) nilM))) (consM (bin addU (slM slD (rdM 1) noPt (somePt (rdM 3))) (tupM (consM (slM slD (rdM 2) noPt (somePt (M.pure (PyData.int 1)))) nilM))) (consM (bin addU (slM slD (rdM 1) noPt (somePt (rdM 3))) (tupM (consM (un1 listD (rdM 2)) nilM))) (consM (bin addU (slM slD (rdM 1) noPt (somePt (rdM 3))) (tupM (consM (tupM (consM (bin addU (tupM (consM (negM (M.pure (PyData.int 1))) nilM)) (bin ixU (rdM 2) (M.pure (PyData.int 0)))) (consM (bin ixU (rdM 2) (M.pure (PyData.int 1))) nilM))) nilM))) (consM (iteM (tstM (bin eqD (rdM 1) (tupM nilM))) (bin addU (slM slD (rdM 1) noPt (somePt (rdM 3))) (tupM (consM (tupM (consM (tupM (consM (M.pure (PyData.bool true)) nilM)) (consM (bin ixU (rdM 2) (M.pure (PyData.int 1))) nilM))) nilM))) (M.pure PyData.none)) (consM (tupM (consM (tupM nilM) (consM (tupM nilM) nilM))) nilM)))))))))))))) nxM))
theorem u46 (T : Nat → Fn) : S0.up T 46 = fnOf [Md.io, Md.dt] false (f46 T) := by kernel_rfl
noncomputable def f47 (T : Nat → Fn) : MS :=
  seqM (asMu 1 (lstM nilM)) (seqM (forM' (overM enumDs (consM (vrM 0) nilM)) (Pat.tp [Pat.nm 2, Pat.nm 3]) (seqM (drM (extM 1 (compM (itsU (rdM 3)) [4, 5] (stepM (Pat.tp [Pat.nm 4, Pat.nm 5]) yesM (elM (tupM (consM (un1 lenD (rdM 4)) (consM (vrM 4) (consM (vrM 2) (consM (vrM 5) nilM)))))))))) nxM)) (seqM (rtM (mvM 1)) nxM))
theorem u47 (T : Nat → Fn) : S0.up T 47 = fnOf [Md.dt] true (f47 T) := by kernel_rfl
noncomputable def f48 (T : Nat → Fn) : MS :=
  seqM (asMu 1 (callM (T 30) [Md.bo, Md.dt] [Ar.dt (callM (T 32) [Md.bo, Md.dt] [Ar.nm 0, Ar.dt (M.pure (PyData.int 1))]), Ar.dt (M.pure (PyData.int 0))])) (seqM (forM' (overM rng1D (consM (M.pure (PyData.int 5)) nilM)) (Pat.nm 2) (seqM (asM (Pat.tp [Pat.nm 3, Pat.nm 4]) (tupM (consM (bin addU (M.pure (PyData.int 1)) (callM (T 31) [Md.io, Md.dt] [Ar.nm 1, Ar.dt (M.pure (PyData.int 3))])) (consM (bin addU (M.pure (PyData.int 1)) (callM (T 31) [Md.io, Md.dt] [Ar.nm 1, Ar.dt (M.pure (PyData.int 3))])) nilM)))) (seqM (par2 5 6 false false (callM (T 45) [Md.io, Md.dt, Md.dt] [Ar.nm 1, Ar.dt (vrM 3), Ar.dt (M.pure (PyData.int 5))]) (callM (T 45) [Md.io, Md.dt, Md.dt] [Ar.nm 1, Ar.dt (vrM 3), Ar.dt (M.pure (PyData.int 4))])) (seqM (asM (Pat.tp [Pat.nm 7, Pat.nm 8, Pat.nm 9]) (tupM (consM (callM (T 42) [Md.dt] [Ar.dt (vrM 5)]) (consM (callM (T 42) [Md.dt] [Ar.dt (vrM 6)]) (consM (callM (T 37) [Md.dt, Md.dt] [Ar.dt (bin subD (callM (T 31) [Md.io, Md.dt] [Ar.nm 1, Ar.dt (M.pure (PyData.int 7))]) (M.pure (PyData.int 3))), Ar.dt (bin addU (M.pure (PyData.int 1)) (callM (T 31) [Md.io, Md.dt] [Ar.nm 1, Ar.dt (M.pure (PyData.int 4))]))]) nilM))))) (seqM (asM (Pat.nm 10) (lstM (consM (callM (T 14) [Md.dt] [Ar.dt (callM (T 35) [Md.dt] [Ar.dt (vrM 5)])]) (consM (callM (T 16) [Md.dt, Md.dt] [Ar.dt (callM (T 35) [Md.dt] [Ar.dt (vrM 7)]), Ar.dt (vrM 8)]) (consM (callM (T 17) [Md.dt, Md.dt] [Ar.dt (vrM 7), Ar.dt (callM (T 35) [Md.dt] [Ar.dt (vrM 9)])]) (consM (callM (T 18) [Md.dt, Md.dt] [Ar.dt (vrM 7), Ar.dt (callM (T 35) [Md.dt] [Ar.dt (vrM 8)])]) (consM (callM (T 28) [Md.dt] [Ar.dt (callM (T 35) [Md.dt] [Ar.dt (vrM 7)])]) (consM (callM (T 14) [Md.dt] [Ar.dt (tupM nilM)]) nilM)))))))) (seqM (asM (Pat.nm 11) (lstM (consM (vrM 7) (consM (callM (T 42) [Md.dt] [Ar.dt (bin addU (un1 listD (rdM 7)) (un1 listD (rdM 8)))]) (consM (callM (T 42) [Md.dt] [Ar.dt (compM (itsU (rdM 7)) [12, 13] (stepM (Pat.tp [Pat.nm 12, Pat.nm 13]) yesM (elM (tupM (consM (vrM 12) (consM (callM (T 39) [Md.dt, Md.dt] [Ar.dt (vrM 13), Ar.dt (vrM 9)]) nilM))))))]) (consM (callM (T 43) [Md.dt, Md.dt] [Ar.dt (vrM 7), Ar.dt (vrM 8)]) (consM (callM (T 42) [Md.dt] [Ar.dt (compM (itsU (rdM 7)) [12, 13] (stepM (Pat.tp [Pat.nm 12, Pat.nm 13]) yesM (elM (tupM (consM (un1 rvD (rdM 12)) (consM (vrM 13) nilM))))))]) (consM (tupM nilM) nilM)))))))) (seqM (ifM (notT (truM (callM (T 34) [Md.dt, Md.dt] [Ar.dt (vrM 10), Ar.dt (vrM 11)]))) (seqM (rtM (M.pure (PyData.bool false))) nxM) nxM) (seqM (par2 14 15 false false (tupM (consM (tupM (consM (tupM nilM) (consM (tupM (consM (M.pure (PyData.int 1)) (consM (M.pure (PyData.int 1)) nilM))) nilM))) nilM)) (callM (T 31) [Md.io, Md.dt] [Ar.nm 1, Ar.dt (M.pure (PyData.int 4))])) (seqM (forM' (overM rng1D (consM (vrM 15) nilM)) (Pat.nm 16) (seqM (asM (Pat.nm 14) (callM (T 43) [Md.dt, Md.dt] [Ar.dt (vrM 14), Ar.dt (slM slD (rdM 7) noPt (somePt (M.pure (PyData.int 2))))])) nxM)) (seqM (ifM (notT (truM (callM (T 34) [Md.dt, Md.dt] [Ar.dt (callM (T 19) [Md.dt, Md.dt] [Ar.dt (callM (T 35) [Md.dt] [Ar.dt (slM slD (rdM 7) noPt (somePt (M.pure (PyData.int 2))))]), Ar.dt (vrM 15)]), Ar.dt (vrM 14)]))) (seqM (rtM (M.pure (PyData.bool false))) nxM) nxM) (seqM (asM (Pat.nm 17) (compM (itsU (bin addU (rdM 5) (rdM 6))) [12, 13] (stepM (Pat.tp [Pat.nm 12, Pat.nm 13]) yesM (elM (tupM (consM (vrM 12) (consM (callM (T 31) [Md.io, Md.dt] [Ar.nm 1, Ar.dt (vrM 4)]) (consM (vrM 13) nilM)))))))) (seqM (asM (Pat.nm 18) (un1 tupD (compM (overM rng1D (consM (vrM 4) nilM)) [20] (stepM (Pat.nm 20) yesM (elM (callM (T 42) [Md.dt] [Ar.dt (compM (itsU (rdM 17)) [12, 19, 13] (stepM (Pat.tp [Pat.nm 12, Pat.nm 19, Pat.nm 13]) (tstM (bin eqD (rdM 19) (rdM 20))) (elM (tupM (consM (vrM 12) (consM (vrM 13) nilM))))))])))))) (seqM (asM (Pat.nm 21) (un1 tupD (compM (overM rng1D (consM (vrM 4) nilM)) [20] (stepM (Pat.nm 20) yesM (elM (callM (T 42) [Md.dt] [Ar.dt (callM (T 45) [Md.io, Md.dt, Md.dt] [Ar.nm 1, Ar.dt (vrM 3), Ar.dt (M.pure (PyData.int 2))])])))))) (seqM (asM (Pat.nm 22) (un1 srtD (callM (T 47) [Md.dt] [Ar.dt (vrM 18)]))) (seqM (asM (Pat.nm 23) (un1 tupD (compM (itsU (un1 rvD (rdM 22))) [24, 12, 19, 13] (stepM (Pat.tp [Pat.nm 24, Pat.nm 12, Pat.nm 19, Pat.nm 13]) yesM (elM (tupM (consM (vrM 12) (consM (vrM 19) (consM (vrM 13) nilM))))))))) (seqM (asM (Pat.nm 10) (lstM (consM (callM (T 41) [Md.dt, Md.dt] [Ar.dt (callM (T 35) [Md.dt] [Ar.dt (vrM 17)]), Ar.dt (vrM 4)]) (consM (callM (T 20) [Md.dt, Md.dt] [Ar.dt (callM (T 35) [Md.dt] [Ar.dt (vrM 18)]), Ar.dt (vrM 21)]) (consM (callM (T 21) [Md.dt, Md.dt] [Ar.dt (vrM 18), Ar.dt (vrM 9)]) (consM (callM (T 22) [Md.dt, Md.dt] [Ar.dt (vrM 7), Ar.dt (callM (T 35) [Md.dt] [Ar.dt (vrM 18)])]) (consM (callM (T 23) [Md.dt, Md.dt] [Ar.dt (callM (T 35) [Md.dt] [Ar.dt (vrM 18)]), Ar.dt (vrM 7)]) (consM (callM (T 24) [Md.dt] [Ar.dt (callM (T 35) [Md.dt] [Ar.dt (vrM 18)])]) (consM (callM (T 25) [Md.dt] [Ar.dt (vrM 18)]) (consM (callM (T 26) [Md.dt] [Ar.dt (callM (T 35) [Md.dt] [Ar.dt (vrM 18)])]) (consM (callM (T 29) [Md.dt] [Ar.dt (vrM 18)]) nilM))))))))))) (seqM (asM (Pat.nm 25) (lstM nilM)) (seqM (forM' (itsM (wvM 23)) (Pat.tp [Pat.nm 12, Pat.nm 19, Pat.nm 13]) (seqM (asM (Pat.nm 25) (bin addU (rdM 25) (un1 listD (rdM 12)))) nxM)) (seqM (asM (Pat.nm 11) (lstM (consM (lstM (consM (M.pure (PyData.str (Str.ofString "told"))) (consM (vrM 18) nilM))) (consM (un1 tupD (compM (overM zipDs (consM (vrM 18) (consM (vrM 21) nilM))) [26, 27] (stepM (Pat.tp [Pat.nm 26, Pat.nm 27]) yesM (elM (callM (T 42) [Md.dt] [Ar.dt (bin addU (un1 listD (rdM 26)) (un1 listD (rdM 27)))]))))) (consM (un1 tupD (compM (itsU (rdM 18)) [28] (stepM (Pat.nm 28) yesM (elM (callM (T 42) [Md.dt] [Ar.dt (compM (itsU (rdM 28)) [12, 13] (stepM (Pat.tp [Pat.nm 12, Pat.nm 13]) yesM (elM (tupM (consM (vrM 12) (consM (callM (T 39) [Md.dt, Md.dt] [Ar.dt (vrM 13), Ar.dt (vrM 9)]) nilM))))))]))))) (consM (un1 tupD (compM (itsU (rdM 18)) [28] (stepM (Pat.nm 28) yesM (elM (callM (T 43) [Md.dt, Md.dt] [Ar.dt (vrM 7), Ar.dt (vrM 28)]))))) (consM (un1 tupD (compM (itsU (rdM 18)) [28] (stepM (Pat.nm 28) yesM (elM (callM (T 43) [Md.dt, Md.dt] [Ar.dt (vrM 28), Ar.dt (vrM 7)]))))) (consM (vrM 23) (consM (iteM (tstM (bin neD (rdM 23) (tupM nilM))) (bin ixU (rdM 23) (M.pure (PyData.int 0))) (M.pure PyData.none)) (consM (un1 maxD (bin addU (lstM (consM (M.pure (PyData.int 0)) nilM)) (compM (itsU (rdM 23)) [12, 19, 13] (stepM (Pat.tp [Pat.nm 12, Pat.nm 19, Pat.nm 13]) yesM (elM (un1 lenD (rdM 12))))))) (consM (callM (T 36) [Md.dt] [Ar.dt (vrM 25)]) nilM))))))))))) (seqM (ifM (notT (truM (callM (T 34) [Md.dt, Md.dt] [Ar.dt (vrM 10), Ar.dt (vrM 11)]))) (seqM (rtM (M.pure (PyData.bool false))) nxM) nxM) (seqM (asM (Pat.nm 29) (compM (overM enumDs (consM (vrM 17) nilM)) [30, 12, 19, 13] (stepM (Pat.tp [Pat.nm 30, Pat.tp [Pat.nm 12, Pat.nm 19, Pat.nm 13]]) yesM (elM (tupM (consM (vrM 12) (consM (bin addU (rdM 19) (iteM (tstM (bin eqD (rdM 30) (bin subD (un1 lenD (rdM 17)) (M.pure (PyData.int 1))))) (vrM 4) (M.pure (PyData.int 0)))) (consM (vrM 13) nilM)))))))) (seqM (ifM (andT (tstM (bin neD (rdM 17) (lstM nilM))) (orT (tstM (bin neD (callM (T 41) [Md.dt, Md.dt] [Ar.dt (vrM 29), Ar.dt (vrM 4)]) (lstM (consM (M.pure (PyData.str (Str.ofString "NoRegister"))) (consM (bin ixU (bin ixU (rdM 29) (negM (M.pure (PyData.int 1)))) (M.pure (PyData.int 1))) (consM (M.pure (PyData.bool true)) nilM)))))) (tstM (bin neD (callM (T 41) [Md.dt, Md.dt] [Ar.dt (bin addU (lstM (consM (tupM (consM (tupM nilM) (consM (negM (M.pure (PyData.int 1))) (consM (tupM (consM (M.pure (PyData.int 1)) (consM (M.pure (PyData.int 1)) nilM))) nilM)))) nilM)) (rdM 29)), Ar.dt (vrM 4)]) (lstM (consM (M.pure (PyData.str (Str.ofString "NoRegister"))) (consM (negM (M.pure (PyData.int 1))) (consM (M.pure (PyData.bool true)) nilM)))))))) (seqM (rtM (M.pure (PyData.bool false))) nxM) nxM) (seqM (asM (Pat.nm 31) (un1 tupD (compM (itsU (rdM 18)) [28] (stepM (Pat.nm 28) yesM (elM (un1 tupD (compM (itsU (rdM 28)) [13] (stepM (Pat.nm 13) (tstM (bin neD (bin ixU (rdM 13) (M.pure (PyData.int 0))) (tupM nilM))) (elM (tupM (consM (bin addU (tupM (consM (bin subD (negM (M.pure (PyData.int 1))) (bin ixU (bin ixU (rdM 13) (M.pure (PyData.int 0))) (M.pure (PyData.int 0)))) nilM)) (slM slD (bin ixU (rdM 13) (M.pure (PyData.int 0))) (somePt (M.pure (PyData.int 1))) noPt)) (consM (bin ixU (rdM 13) (M.pure (PyData.int 1))) nilM)))))))))))) (seqM (asM (Pat.nm 31) (un1 tupD (compM (itsU (rdM 31)) [28] (stepM (Pat.nm 28) yesM (elM (callM (T 42) [Md.dt] [Ar.dt (un1 listD (rdM 28))])))))) (seqM (ifM (notT (truM (callM (T 34) [Md.dt, Md.dt] [Ar.dt (lstM (consM (callM (T 20) [Md.dt, Md.dt] [Ar.dt (vrM 31), Ar.dt (vrM 18)]) (consM (callM (T 21) [Md.dt, Md.dt] [Ar.dt (vrM 31), Ar.dt (tupM (consM (M.pure (PyData.int 2)) (consM (M.pure (PyData.int 1)) nilM)))]) (consM (callM (T 26) [Md.dt] [Ar.dt (vrM 31)]) nilM)))), Ar.dt (lstM (consM (un1 tupD (compM (overM zipDs (consM (vrM 31) (consM (vrM 18) nilM))) [26, 27] (stepM (Pat.tp [Pat.nm 26, Pat.nm 27]) yesM (elM (callM (T 42) [Md.dt] [Ar.dt (bin addU (un1 listD (rdM 26)) (un1 listD (rdM 27)))]))))) (consM (un1 tupD (compM (itsU (rdM 31)) [28] (stepM (Pat.nm 28) yesM (elM (un1 tupD (compM (itsU (rdM 28)) [12, 13] (stepM (Pat.tp [Pat.nm 12, Pat.nm 13]) yesM (elM (tupM (consM (vrM 12) (consM (callM (T 39) [Md.dt, Md.dt] [Ar.dt (vrM 13), Ar.dt (tupM (consM (M.pure (PyData.int 2)) (consM (M.pure (PyData.int 1)) nilM)))]) nilM))))))))))) (consM (un1 maxD (bin addU (lstM (consM (M.pure (PyData.int 0)) nilM)) (compM (itsU (callM (T 47) [Md.dt] [Ar.dt (vrM 31)])) [32] (stepM (Pat.nm 32) yesM (elM (un1 lenD (bin ixU (rdM 32) (M.pure (PyData.int 1))))))))) nilM))))]))) (seqM (rtM (M.pure (PyData.bool false))) nxM) nxM) (seqM (par2 12 33 false false (callM (T 44) [Md.io, Md.dt, Md.dt] [Ar.nm 1, Ar.dt (vrM 3), Ar.dt (M.pure (PyData.int 4))]) (callM (T 44) [Md.io, Md.dt, Md.dt] [Ar.nm 1, Ar.dt (vrM 3), Ar.dt (M.pure (PyData.int 2))])) (seqM (forM' (itsU (tupM (consM (vrM 12) (consM (bin addU (rdM 12) (rdM 33)) (consM (vrM 33) nilM))))) (Pat.nm 34) (seqM (asM (Pat.nm 35) (andM (bin eqD (slM slD (rdM 34) (somePt (bin subD (un1 lenD (rdM 34)) (un1 lenD (rdM 33)))) noPt) (rdM 33)) (bin geD (un1 lenD (rdM 34)) (un1 lenD (rdM 33))))) (seqM (ifM (notT (truM (callM (T 34) [Md.dt, Md.dt] [Ar.dt (callM (T 27) [Md.dt, Md.dt] [Ar.dt (callM (T 35) [Md.dt] [Ar.dt (vrM 34)]), Ar.dt (callM (T 35) [Md.dt] [Ar.dt (vrM 33)])]), Ar.dt (iteM (truM (rdM 35)) (slM slD (rdM 34) noPt (somePt (bin subD (un1 lenD (rdM 34)) (un1 lenD (rdM 33))))) (M.pure PyData.none))]))) (seqM (rtM (M.pure (PyData.bool false))) nxM) nxM) nxM))) (seqM (asM (Pat.nm 36) (lstM (consM (callM (T 10) [Md.dt, Md.dt] [Ar.dt (vrM 12), Ar.dt (vrM 3)]) (consM (callM (T 11) [Md.dt, Md.dt] [Ar.dt (vrM 7), Ar.dt (vrM 3)]) (consM (callM (T 12) [Md.dt, Md.dt, Md.dt] [Ar.dt (vrM 18), Ar.dt (vrM 4), Ar.dt (vrM 3)]) (consM (callM (T 12) [Md.dt, Md.dt, Md.dt] [Ar.dt (vrM 18), Ar.dt (bin addU (rdM 4) (M.pure (PyData.int 1))), Ar.dt (vrM 3)]) (consM (callM (T 10) [Md.dt, Md.dt] [Ar.dt (bin addU (rdM 12) (tupM (consM (vrM 3) nilM))), Ar.dt (vrM 3)]) (consM (callM (T 11) [Md.dt, Md.dt] [Ar.dt (tupM nilM), Ar.dt (M.pure (PyData.int 0))]) (consM (callM (T 12) [Md.dt, Md.dt, Md.dt] [Ar.dt (bin mulD (tupM (consM (tupM nilM) nilM)) (rdM 4)), Ar.dt (vrM 4), Ar.dt (M.pure (PyData.int 0))]) nilM))))))))) (seqM (ifM (orT (tstM (bin neD (rdM 36) (lstM (consM (M.pure (PyData.bool true)) (consM (M.pure (PyData.bool true)) (consM (M.pure (PyData.bool true)) (consM (M.pure (PyData.bool false)) (consM (M.pure (PyData.bool false)) (consM (M.pure (PyData.bool true)) (consM (M.pure (PyData.bool true)) nilM)))))))))) (orT (tstM (bin neD (compM (itsU (callM (T 46) [Md.io, Md.dt] [Ar.nm 1, Ar.dt (vrM 7)])) [37] (stepM (Pat.nm 37) (truM (callM (T 11) [Md.dt, Md.dt] [Ar.dt (vrM 37), Ar.dt (vrM 3)])) (elM (vrM 37)))) (lstM nilM))) (tstM (bin neD (compM (itsU (callM (T 46) [Md.io, Md.dt] [Ar.nm 1, Ar.dt (vrM 7)])) [37] (stepM (Pat.nm 37) (truM (callM (T 12) [Md.dt, Md.dt, Md.dt] [Ar.dt (bin addU (tupM (consM (vrM 37) nilM)) (slM slD (rdM 18) (somePt (M.pure (PyData.int 1))) noPt)), Ar.dt (vrM 4), Ar.dt (vrM 3)])) (elM (vrM 37)))) (lstM nilM))))) (seqM (rtM (M.pure (PyData.bool false))) nxM) nxM) (seqM (ifM (orT (tstM (bin neD (compM (itsU (tupM (consM (un1 listD (rdM 12)) (consM (M.pure PyData.none) (consM (M.pure (PyData.int 0)) (consM (tupM (consM (M.pure (PyData.bool true)) nilM)) (consM (tupM (consM (negM (M.pure (PyData.int 1))) nilM)) (consM (bin addU (rdM 12) (tupM (consM (M.pure PyData.none) nilM))) (consM (M.pure (PyData.str (Str.ofString "0"))) nilM))))))))) [37] (stepM (Pat.nm 37) (truM (callM (T 10) [Md.dt, Md.dt] [Ar.dt (vrM 37), Ar.dt (vrM 3)])) (elM (vrM 37)))) (lstM nilM))) (orT (truM (callM (T 12) [Md.dt, Md.dt, Md.dt] [Ar.dt (un1 listD (rdM 18)), Ar.dt (vrM 4), Ar.dt (vrM 3)])) (truM (callM (T 12) [Md.dt, Md.dt, Md.dt] [Ar.dt (M.pure PyData.none), Ar.dt (M.pure (PyData.int 1)), Ar.dt (M.pure (PyData.int 1))])))) (seqM (rtM (M.pure (PyData.bool false))) nxM) nxM) nxM)))))))))))))))))))))))))))))) (seqM (rtM (M.pure (PyData.bool true))) nxM))
theorem u48 (T : Nat → Fn) : S0.up T 48 = fnOf [Md.bo] false (f48 T) := by kernel_rfl
end Rf
end
section
set_option Elab.async false
set_option linter.all false
set_option maxRecDepth 100000
set_option maxHeartbeats 0
namespace Rf
open PySem PySem.Spec PyProof.Rows L2
abbrev Lw : PySem.W.OpenLaw := PySem.Challenge.rw_ruledsums_k00_words_mixes_sums_by_own_re
def defAt (d : Df) : He.DefD := ⟨(d.x, none), d.x, d.x, defArgs d.st, defBody d.st, defScope d.st, [], []⟩
def clsSt : Stmt := top 2
def iniSt : Stmt := match clsSt with
  | .ClassDef (body := b) .. => b.getD 0 (.Pass ⟨0, 0, 0, 0⟩)
  | _ => .Pass ⟨0, 0, 0, 0⟩
def dIni : He.DefD := ⟨("NoRegister", some "__init__"), "__init__", "NoRegister.__init__", defArgs iniSt, defBody iniSt, defScope iniSt, [], []⟩
def fnS : List He.DefD := dfs.map defAt ++ [dIni]
def faS : List He.Fa := (dfs.map fun d => He.Fa.glo d.x) ++ bis.map He.Fa.free
def exS (K : PySem.W.Frag) : Bool := clsD K "NoRegister" "number" "LookupError" "LookupError.__new__" [.type "LookupError", .type "Exception", .type "BaseException", .type "object"] &&
  (conD K "NONE" (.tuple [.int 0, .int 1]) && (conD K "FULL" (.tuple [.int 1, .int 1]) && (conD K "ONE" (.tuple [.tuple [.tuple [], .tuple [.int 1, .int 1]]]) && bltD K "gcd" "math.gcd")))
abbrev Rw : PySem.W.OpenRow := PySem.W.OpenLaw.row Lw
abbrev hkS : PySem.W.Hook := He.hookX 6 faS fnS [] [] exS
def obS (s : PySem.W.SharedT) : He.AlX := He.obsX 6 faS fnS [] [] exS (HandSHeadRun.getT s)
theorem obS_eq (s : PySem.W.SharedT) : obS s = hkS.obs s.abs := He.obsX_eq (HandSHeadRun.getT_eq s)
def looseS : List Str := (["__name__", "NoRegister", "NONE", "FULL", "ONE"] : List Str) ++ (dfs.map (·.x)).filter fun x => !(x == ("law" : Str))
abbrev nTop : Nat := 57
theorem runS (w : World) : HandSHeadRun.RunEqI Rw (PySem.W.view Rw.prog [0, nTop]) hkS obS 6000 looseS w := by
  unfold HandSHeadRun.RunEqI
  kernel_rfl
end Rf
end
section
set_option Elab.async false
set_option linter.all false
set_option maxRecDepth 100000
set_option maxHeartbeats 0
namespace Rf
open PySem PySem.Spec PyProof.Rows L2
def BindOk (d : Df) : Prop := ∀ (q : Str) (kV doc pm : Value) (an : Option Addr) (cdv ct : Value) (us : List Value), us.length = d.ps.length → bindArgs (PySem.W.fnOf d.x q (defArgs d.st) (defBody d.st) (defScope d.st) .none kV doc pm an cdv ct) ⟨us, []⟩ = pure (d.ps.zip us)
def ScOk (d : Df) : Prop := FnScope d.N d.ps (defScope d.st) ∧ d.ms.length = d.ps.length
theorem all_bind : ∀ d ∈ dfs, BindOk d := by
  unfold dfs
  repeat' first
    | refine List.forall_mem_cons.mpr ⟨?_, ?_⟩
    | exact fun _ h => absurd h List.not_mem_nil
  all_goals
    intro q kV doc pm an cdv ct us hl
    first
      | exact (match us, hl with | [_], _ => rfl)
      | exact (match us, hl with | [_, _], _ => rfl)
      | exact (match us, hl with | [_, _, _], _ => rfl)
theorem all_sc : ∀ d ∈ dfs, ScOk d := by
  unfold dfs
  repeat' first
    | refine List.forall_mem_cons.mpr ⟨?_, ?_⟩
    | exact fun _ h => absurd h List.not_mem_nil
  all_goals
    exact ⟨⟨rfl, rfl, rfl, by decide +kernel, rfl, by decide +kernel, by decide +kernel⟩, rfl⟩
theorem ini_st : ∃ (s p : Str) (p1 p2 p3 pos : Pos), dIni.body = [.Assign [.Attribute (.Name s p1) "number" p2] (.Name p p3) pos] ∧ s = "self" ∧ p = "number" := ⟨_, _, _, _, _, _, rfl, rfl, rfl⟩
theorem ini_sc : FnScope ["self", "number"] ["self", "number"] dIni.scope := ⟨rfl, rfl, rfl, by decide +kernel, rfl, by decide +kernel, by decide +kernel⟩
section
variable {P : Program} {w : World} {K : PySem.W.Frag} {h : Heap} {mg : Str → Option Value}
theorem at_of (KX : K.In h) (G : h.Ns mainGlobals mg) (c : He.SaysD faS fnS K) (ex : exS K = true) : S0.At P w K mg (xrOf (He.ga K "NoRegister") "number") := by
  obtain ⟨e1, e2⟩ := He.ba ex
  obtain ⟨e2, e3⟩ := He.ba e2
  obtain ⟨e3, e4⟩ := He.ba e3
  obtain ⟨e4, e5⟩ := He.ba e4
  have I := clsD_ok e1
  refine ⟨fun d hd => ?_, fun d hd => all_sc d hd, fun X h1 h2 h3 h4 hr p hp => ?_, fun x hx => ?_⟩
  · have m1 : defAt d ∈ fnS := List.mem_append_left _ (List.mem_map_of_mem hd)
    obtain ⟨fd, F⟩ := c.defs m1
    have m2 : He.Fa.glo d.x ∈ faS := List.mem_append_left _ (List.mem_map.mpr ⟨d, hd, rfl⟩)
    have g := He.glo_ok KX G (c.facts m2)
    exact ⟨_, _, fd, F, g, F.bindsN (all_bind d hd _)⟩
  · subst h1 h2 h3 h4
    unfold S0 css at hp
    simp only [List.mem_cons, List.not_mem_nil, or_false] at hp
    rcases hp with rfl | rfl | rfl | rfl | rfl
    · exact conD_ok KX G e2
    · exact conD_ok KX G e3
    · exact conD_ok KX G e4
    · exact bltD_ok KX G e5
    · have m1 : dIni ∈ fnS := List.mem_append_right _ (List.mem_singleton.mpr rfl)
      obtain ⟨fd, F⟩ := c.defs m1
      have hm : X.mg "NoRegister" = some (.ref (He.ga X.K "NoRegister")) := PySem.W.mg_of KX G I.gl
      obtain ⟨s, p, p1, p2, p3, pos, eb, rfl, rfl⟩ := ini_st
      have F' : FunD X.K dIni.name dIni.qual dIni.params [.Assign [.Attribute (.Name "self" p1) "number" p2] (.Name "number" p3) pos] dIni.scope [] [] (He.fAd X.K dIni.at_) fd := by rw [← eb]; exact F
      have FN := init_ok (P := X.prog) (w := X.w) (mg := X.mg) (base := X.base) (CX := L2.CX X.prog X.w) F' ini_sc rfl rfl (by decide) (by decide) (by decide) (by decide) exBase_lookup I.exo I.cat.no
      have hb : Binds X.K fd ["self", "number"] [] := F.bindsN fun _ _ _ _ _ _ us hl => match us, hl with | [_, _], _ => rfl
      refine ⟨⟨⟨"number", _, _, _, _, _, _, 1, fd, _, hm, PySem.F.excBase_LookupError, I.exo, I.ini, I.ity, FN, hr.mono (by omega), hb, xr_at _ _⟩⟩, _, hm, xr_of _ _, I.cat⟩
  · exact He.free_ok KX G (c.facts (List.mem_append_right _ (List.mem_map_of_mem hx)))
end
theorem d48 : ∃ d, dfs[48]? = some d ∧ d.x = ("law" : Str) ∧ d.ps = [("script" : Str)] ∧ d.ms = [.bo] ∧ d.fr = false := ⟨_, rfl, rfl, rfl, rfl, rfl⟩
def Pure0 (kk : Nat) : Prop := ∀ ns : List Int, ns.length ≤ 63 → (∀ z ∈ ns, Builtin.Int.intBits z ≤ 1048576) → S0.tab kk 48 [.list (ns.map .int)] = .ok (.bool true) []
open PySem.W PySem.Calls in
theorem holds_of {kk : Nat} (hk : Room (kk + 4) callerA) (pr : Pure0 kk) : Lw.Holds := by
  w_on; o_law
  refine HandSHeadRun.head_imp (r := OpenLaw.row Lw) (q := view (OpenLaw.row Lw).prog [0, nTop]) (H := hkS) (ob := obS) (M := 6000) (loose := looseS) (d := HandSHeadRun.topDef (OpenLaw.row Lw).prog nTop) (kwd := []) obS_eq
    runS (by kernel_rfl) (by kernel_rfl) (by kernel_rfl) (by rfl) (by first | assumption | decide +kernel) (by decide +kernel) ⟨rfl, rfl, rfl, rfl, rfl, by decide +kernel⟩ ?hw ?hc
  case hw => w_witness2
  case hc =>
    refine walk_ofBE (l := Lw) (n := 63) (k := kk + 4) (x := "script") rfl (by decide) (by kernel_rfl) hk ?F
    intro w mg fa h Y G hmg0
    obtain ⟨K, KX, c⟩ := Y
    have hmg : mg ("law" : PySem.Str) = some (.ref fa) := by
      have e : (HandSHeadRun.topDef (OpenLaw.row Lw).prog nTop).name = ("law" : PySem.Str) := by kernel_rfl
      rw [← e]
      exact hmg0
    have A := at_of (P := Lw.prog) (w := w) KX G c.t.d c.more
    obtain ⟨d, hd, hx, hp, hms, hfr⟩ := d48
    obtain ⟨q, f, fd, F, hm, hb⟩ := A.df d (List.mem_of_getElem? hd)
    rw [hx] at hm
    have e := hmg.symm.trans hm
    cases e
    refine ⟨K, fd, spF Lw.prog w K (xrOf (He.ga K "NoRegister") "number") [.bo] false (S0.tab kk 48), KX, ?_, fun H a ns hl hbits _ hS => law_sp (.inl rfl) hS (pr ns hl hbits), ?_⟩
    · have b := FunD.bindsA (ps := d.ps) F (all_bind d (List.mem_of_getElem? hd) q)
      rw [hp] at b
      exact fun s v => b s [v] rfl
    · intro base hK hG
      have z := Sy.ok A base kk 48 d hd F
      rw [hp, hms, hfr] at z
      exact z
end Rf
end
section
set_option autoImplicit false
set_option linter.all false
namespace Q
abbrev W := List Int
abbrev Mx := List (W × Rat)
/-! ### words in order -/
def wle (u v : W) : Bool := decide (u.length < v.length ∨ (u.length = v.length ∧ u ≤ v))
theorem wle_trans {a b c : W} (h : wle a b = true) (k : wle b c = true) : wle a c = true := by
  simp only [wle, decide_eq_true_eq] at *
  rcases h with h | ⟨h, h'⟩ <;> rcases k with k | ⟨k, k'⟩
  · left; omega
  · left; omega
  · left; omega
  · right; exact ⟨by omega, List.le_trans h' k'⟩
theorem wle_total (a b : W) : (wle a b || wle b a) = true := by
  simp only [wle, Bool.or_eq_true, decide_eq_true_eq]
  rcases Nat.lt_trichotomy a.length b.length with h | h | h
  · left; left; exact h
  · rcases List.le_total a b with k | k
    · left; right; exact ⟨h, k⟩
    · right; right; exact ⟨h.symm, k⟩
  · right; left; exact h
theorem wle_anti {a b : W} (h : wle a b = true) (k : wle b a = true) : a = b := by
  simp only [wle, decide_eq_true_eq] at *
  rcases h with h | ⟨h, h'⟩ <;> rcases k with k | ⟨k, k'⟩
  · omega
  · omega
  · omega
  · exact List.le_antisymm h' k'
def srtW (l : List W) : List W := l.mergeSort wle
theorem srtW_sorted (l : List W) : (srtW l).Pairwise (fun a b => wle a b = true) := List.pairwise_mergeSort (le := wle) (fun a b c (h : wle a b = true) k => wle_trans h k) wle_total l
theorem srtW_perm (l : List W) : (srtW l).Perm l := List.mergeSort_perm l wle
theorem sorted_eq {l m : List W} (p : l.Perm m) (hl : l.Pairwise (fun a b => wle a b = true)) (hm : m.Pairwise (fun a b => wle a b = true)) : l = m :=
  List.Perm.eq_of_pairwise (le := fun a b => wle a b = true) (fun a b _ _ h1 h2 => wle_anti h1 h2) hl hm p
theorem srtW_congr {l m : List W} (p : l.Perm m) : srtW l = srtW m := sorted_eq (((srtW_perm l).trans p).trans (srtW_perm m).symm) (srtW_sorted l) (srtW_sorted m)
theorem srtW_filter (f : W → Bool) (l : List W) : (srtW l).filter f = srtW (l.filter f) :=
  sorted_eq (((srtW_perm l).filter f).trans (srtW_perm _).symm) ((srtW_sorted l).sublist List.filter_sublist) (srtW_sorted _)
/-! ### each once -/
def dd : List W → List W
  | [] => []
  | w :: ws => if w ∈ ws then dd ws else w :: dd ws
theorem mem_dd {w : W} : ∀ {ws : List W}, w ∈ dd ws ↔ w ∈ ws
  | [] => Iff.rfl
  | x :: ws => by
    unfold dd
    split
    · rename_i h
      rw [mem_dd, List.mem_cons]
      exact ⟨.inr, fun z => z.elim (fun e => e ▸ h) id⟩
    · rw [List.mem_cons, List.mem_cons, mem_dd]
theorem nd_dd : ∀ ws : List W, (dd ws).Nodup
  | [] => List.nodup_nil
  | x :: ws => by
    unfold dd
    split
    · exact nd_dd ws
    · rename_i h
      exact List.nodup_cons.mpr ⟨fun z => h (mem_dd.mp z), nd_dd ws⟩
theorem perm_of_mem {l m : List W} (nl : l.Nodup) (nm : m.Nodup) (h : ∀ w, w ∈ l ↔ w ∈ m) : l.Perm m := (List.perm_ext_iff_of_nodup nl nm).mpr h
/-! ### added up -/
def sumQ (qs : List Rat) : Rat := qs.foldl (· + ·) 0
def coef (ps : Mx) (w : W) : Rat := sumQ ((ps.filter fun p => p.1 == w).map (·.2))
def keys (ps : Mx) : List W := ps.map (·.1)
/-- pairs added up, 0 left out, ascending -/
def canon (ps : Mx) : Mx := (srtW ((dd (keys ps)).filter fun w => coef ps w != 0)).map fun w => (w, coef ps w)
def lawMix (ps : Mx) : Mx := (srtW (dd (keys ps))).filterMap fun w => if coef ps w = 0 then none else some (w, coef ps w)
theorem law_mix_eq (ps : Mx) : lawMix ps = canon ps := by
  unfold lawMix canon
  rw [← srtW_filter]
  generalize srtW (dd (keys ps)) = l
  induction l with
  | nil => rfl
  | cons w l ih =>
    by_cases h : coef ps w = 0
    · simp [h, ih]
    · simp [h, ih]
/-- the dict's way -/
theorem dict_mix_eq {ps : Mx} {ks : List W} (nd : ks.Nodup) (hm : ∀ w, w ∈ ks ↔ w ∈ keys ps) : (srtW (ks.filter fun w => coef ps w != 0)).map (fun w => (w, coef ps w)) = canon ps := by
  unfold canon
  rw [srtW_congr (List.Perm.filter _ (perm_of_mem nd (nd_dd _) fun w => (hm w).trans mem_dd.symm))]
/-! ### what is so -/
structure IsCan (m : Mx) : Prop where
  asc : m.Pairwise fun p q => wle p.1 q.1 = true ∧ p.1 ≠ q.1
  nz : ∀ p ∈ m, p.2 ≠ 0
theorem canon_can (ps : Mx) : IsCan (canon ps) := by
  constructor
  · unfold canon
    rw [List.pairwise_map]
    have h1 := srtW_sorted ((dd (keys ps)).filter fun w => coef ps w != 0)
    have h2 : (srtW ((dd (keys ps)).filter fun w => coef ps w != 0)).Nodup := (srtW_perm _).nodup_iff.mpr ((nd_dd _).sublist List.filter_sublist)
    exact h1.and h2
  · intro p hp
    unfold canon at hp
    obtain ⟨w, hw, rfl⟩ := List.mem_map.mp hp
    have := (List.mem_filter.mp ((srtW_perm _).mem_iff.mp hw)).2
    simpa using this
theorem can_nodup {m : Mx} (h : IsCan m) : (keys m).Nodup := by
  unfold keys List.Nodup
  rw [List.pairwise_map]
  exact h.asc.imp fun h => h.2
theorem coef_nodup {m : Mx} (nd : (keys m).Nodup) : ∀ p ∈ m, coef m p.1 = p.2 := by
  intro p hp
  have : m.filter (fun q => q.1 == p.1) = [p] := by
    skip
    induction m with
    | nil => cases hp
    | cons a m ih =>
      simp only [keys, List.map_cons, List.nodup_cons] at nd
      rcases List.mem_cons.mp hp with rfl | hp
      · rw [List.filter_cons_of_pos (by simp)]
        congr 1
        rw [List.filter_eq_nil_iff]
        intro q hq e
        have e := eq_of_beq e
        exact nd.1 (List.mem_map.mpr ⟨q, hq, e⟩)
      · rw [List.filter_cons_of_neg, ih nd.2 hp]
        intro e
        exact nd.1 (List.mem_map.mpr ⟨p, hp, (eq_of_beq e).symm⟩)
  unfold coef
  rw [this]
  simp [sumQ, Rat.zero_add]
theorem canon_of_can {m : Mx} (h : IsCan m) : canon m = m := by
  have nd := can_nodup h
  have e1 : dd (keys m) = keys m := by
    clear h
    unfold keys at *
    revert nd
    generalize m.map (·.1) = l
    intro nd
    induction l with
    | nil => rfl
    | cons a l ih =>
      obtain ⟨h1, h2⟩ := List.nodup_cons.mp nd
      unfold dd
      rw [if_neg h1, ih h2]
  have e2 : (keys m).filter (fun w => coef m w != 0) = keys m := by
    rw [List.filter_eq_self]
    intro w hw
    obtain ⟨p, hp, rfl⟩ := List.mem_map.mp hw
    rw [coef_nodup nd p hp]
    simpa using h.nz p hp
  unfold canon
  rw [e1, e2]
  have e3 : srtW (keys m) = keys m := by
    refine sorted_eq (srtW_perm _) (srtW_sorted _) ?_
    unfold keys
    rw [List.pairwise_map]
    exact h.asc.imp fun h => h.1
  rw [e3]
  unfold keys
  rw [List.map_map]
  conv => rhs; rw [← List.map_id m]
  exact List.map_congr_left fun p hp => by simp [coef_nodup nd p hp]
theorem can_map {m : Mx} (h : IsCan m) (f : Rat → Rat) (hf : ∀ q, q ≠ 0 → f q ≠ 0) : IsCan (m.map fun p => (p.1, f p.2)) := by
  constructor
  · rw [List.pairwise_map]
    exact h.asc
  · intro p hp
    obtain ⟨q, hq, rfl⟩ := List.mem_map.mp hp
    exact hf _ (h.nz q hq)
theorem can_take {m : Mx} (h : IsCan m) (n : Nat) : IsCan (m.take n) := ⟨h.asc.sublist (List.take_sublist n m), fun p hp => h.nz p (List.mem_of_mem_take hp)⟩
theorem canon_len (ps : Mx) : (canon ps).length ≤ ps.length := by
  unfold canon
  rw [List.length_map, (srtW_perm _).length_eq]
  refine Nat.le_trans (List.length_filter_le _ _) ?_
  unfold keys
  have : ∀ l : List W, (dd l).length ≤ l.length := by
    intro l
    induction l with
    | nil => exact Nat.le_refl _
    | cons a l ih =>
      unfold dd
      split
      · exact Nat.le_succ_of_le ih
      · exact Nat.succ_le_succ ih
  have h := this (ps.map (·.1))
  rwa [List.length_map] at h
theorem canon_keys {ps : Mx} {p : W × Rat} (h : p ∈ canon ps) : p.1 ∈ keys ps ∧ p.2 = coef ps p.1 := by
  unfold canon at h
  obtain ⟨w, hw, rfl⟩ := List.mem_map.mp h
  exact ⟨mem_dd.mp (List.mem_filter.mp ((srtW_perm _).mem_iff.mp hw)).1, rfl⟩
end Q
end
section
set_option autoImplicit false
set_option linter.all false
namespace Q
/-! ### FRACTIONS -/
theorem den_pos (q : Rat) : (0 : Int) < q.den := by have := q.den_nz; omega
theorem frac_law {top bottom : Int} (h : bottom ≠ 0) (a : Int) (ha : a = (top.natAbs.gcd bottom.natAbs : Nat)) (s : Int) (hs : s = if bottom < 0 then -1 else 1) :
    (s * top).fdiv a = (Rat.divInt top bottom).num ∧ (s * bottom).fdiv a = (Rat.divInt top bottom).den := by
  have ga : (bottom.gcd top : Nat) = top.natAbs.gcd bottom.natAbs := by rw [Int.gcd_comm]; rfl
  have apos : (0 : Int) ≤ a := by rw [ha]; exact Int.natCast_nonneg _
  have sg : s = bottom.sign := by
    rw [hs]
    split
    · exact (Int.sign_eq_neg_one_of_neg (by assumption)).symm
    · exact (Int.sign_eq_one_of_pos (by omega)).symm
  rw [Int.fdiv_eq_ediv_of_nonneg _ apos, Int.fdiv_eq_ediv_of_nonneg _ apos, Rat.num_divInt, Rat.den_divInt, if_neg h, ga, ← ha, ← sg]
  refine ⟨rfl, ?_⟩
  have e : s * bottom = (bottom.natAbs : Nat) := by rw [sg, Int.mul_comm, Int.mul_sign_self]
  rw [e, ha]
  rfl
theorem frac_prog {top bottom : Int} (h : bottom ≠ 0) (c : Int) (hc : c = if bottom < 0 then -(Int.gcd top bottom : Int) else (Int.gcd top bottom : Int)) :
    top.fdiv c = (Rat.divInt top bottom).num ∧ bottom.fdiv c = (Rat.divInt top bottom).den := by
  obtain ⟨h1, h2⟩ := frac_law (top := top) h (Int.gcd top bottom : Nat) rfl _ rfl
  rw [hc, ← h1, ← h2]
  split
  · have e : ∀ x : Int, (-1 * x).fdiv ↑(Int.gcd top bottom) = x.fdiv (-↑(Int.gcd top bottom)) := by
      intro x
      rw [← Int.neg_fdiv_neg]
      simp
    exact ⟨(e top).symm, (e bottom).symm⟩
  · simp
theorem add_div (p q : Rat) : p + q = Rat.divInt (p.num * q.den + q.num * p.den) (p.den * q.den) := by
  rw [Rat.add_def', ← Rat.divInt_ofNat]; simp
theorem mul_div (p q : Rat) : p * q = Rat.divInt (p.num * q.num) (p.den * q.den) := by
  rw [Rat.mul_def', ← Rat.divInt_ofNat]; simp
theorem divInt_one (n : Int) : (Rat.divInt n 1).num = n ∧ (Rat.divInt n 1).den = 1 := by
  rw [Rat.num_divInt, Rat.den_divInt]
  simp
theorem num_zero {q : Rat} : q.num = 0 ↔ q = 0 := Rat.num_eq_zero
/-! ### sizes -/
/-- not above n bits -/
def Sz (n : Nat) (q : Rat) : Prop := q.num.natAbs < 2 ^ n ∧ q.den < 2 ^ n
theorem Sz.mono {n m : Nat} {q : Rat} (h : Sz n q) (k : n ≤ m) : Sz m q :=
  ⟨Nat.lt_of_lt_of_le h.1 (Nat.pow_le_pow_right (by omega) k), Nat.lt_of_lt_of_le h.2 (Nat.pow_le_pow_right (by omega) k)⟩
theorem divInt_size {a b : Int} (h : b ≠ 0) : (Rat.divInt a b).num.natAbs ≤ a.natAbs ∧ (Rat.divInt a b).den ≤ b.natAbs := by
  obtain ⟨h1, h2⟩ := frac_prog (top := a) h _ rfl
  constructor
  · rw [Rat.num_divInt, Int.natAbs_ediv_of_dvd (Int.dvd_trans (Int.gcd_dvd_right _ _) (Int.dvd_mul_left _ _))]
    refine Nat.le_trans (Nat.div_le_self _ _) ?_
    rw [Int.natAbs_mul, Int.natAbs_sign_of_ne_zero h, Nat.one_mul]
    exact Nat.le_refl _
  · rw [Rat.den_divInt, if_neg h]
    exact Nat.div_le_self _ _
theorem sz_divInt {n : Nat} {a b : Int} (h : b ≠ 0) (ha : a.natAbs < 2 ^ n) (hb : b.natAbs < 2 ^ n) : Sz n (Rat.divInt a b) :=
  ⟨Nat.lt_of_le_of_lt (divInt_size h).1 ha, Nat.lt_of_le_of_lt (divInt_size h).2 hb⟩
theorem mul_lt2 {a b n m : Nat} (ha : a < 2 ^ n) (hb : b < 2 ^ m) : a * b < 2 ^ (n + m) := by
  rw [Nat.pow_add]
  exact Nat.mul_lt_mul'' ha hb
theorem Sz.mul {n m : Nat} {p q : Rat} (hp : Sz n p) (hq : Sz m q) : Sz (n + m) (p * q) := by
  rw [mul_div]
  refine sz_divInt (Int.ne_of_gt (Int.mul_pos (den_pos p) (den_pos q))) ?_ ?_
  · rw [Int.natAbs_mul]; exact mul_lt2 hp.1 hq.1
  · rw [Int.natAbs_mul]; exact mul_lt2 hp.2 hq.2
theorem sz_num {n m : Nat} {p q : Rat} (hp : Sz n p) (hq : Sz m q) : (p.num * q.den + q.num * p.den).natAbs < 2 ^ (n + m + 1) := by
  have h1 : (p.num * q.den).natAbs < 2 ^ (n + m) := by rw [Int.natAbs_mul]; exact mul_lt2 hp.1 hq.2
  have h2 : (q.num * p.den).natAbs < 2 ^ (n + m) := by rw [Int.natAbs_mul, Nat.add_comm]; exact mul_lt2 hq.1 hp.2
  have := Int.natAbs_add_le (p.num * q.den) (q.num * p.den)
  rw [Nat.pow_succ]
  omega
theorem sz_den {n m : Nat} {p q : Rat} (hp : Sz n p) (hq : Sz m q) : ((p.den : Int) * q.den).natAbs < 2 ^ (n + m) := by
  rw [Int.natAbs_mul]; exact mul_lt2 hp.2 hq.2
theorem Sz.add {n m : Nat} {p q : Rat} (hp : Sz n p) (hq : Sz m q) : Sz (n + m + 1) (p + q) := by
  rw [add_div]
  refine sz_divInt (Int.ne_of_gt (Int.mul_pos (den_pos p) (den_pos q))) (sz_num hp hq) (Nat.lt_of_lt_of_le (sz_den hp hq) (Nat.pow_le_pow_right (by omega) (by omega)))
theorem sz_zero : Sz 1 0 := ⟨by decide, by decide⟩
theorem sz_foldl {n : Nat} {qs : List Rat} (h : ∀ q ∈ qs, Sz n q) : ∀ {m : Nat} {a : Rat}, Sz m a → Sz (m + qs.length * (n + 1)) (qs.foldl (· + ·) a) := by
  induction qs with
  | nil => intro m a ha; simpa using ha
  | cons q qs ih =>
    intro m a ha
    have := ih (fun x hx => h x (List.mem_cons_of_mem _ hx)) (ha.add (h q List.mem_cons_self))
    refine this.mono ?_
    rw [List.length_cons, Nat.succ_mul]
    omega
theorem sz_sum {n : Nat} {qs : List Rat} (h : ∀ q ∈ qs, Sz n q) : Sz (1 + qs.length * (n + 1)) (sumQ qs) := sz_foldl h sz_zero
/-- all of a MIX -/
def SzM (n : Nat) (m : Mx) : Prop := ∀ p ∈ m, Sz n p.2
theorem sz_coef {n : Nat} {ps : Mx} (h : SzM n ps) (w : W) : Sz (1 + ps.length * (n + 1)) (coef ps w) := by
  unfold coef
  refine (sz_sum (n := n) fun q hq => ?_).mono ?_
  · obtain ⟨p, hp, rfl⟩ := List.mem_map.mp hq
    exact h p (List.mem_filter.mp hp).1
  · rw [List.length_map]
    exact Nat.add_le_add_left (Nat.mul_le_mul_right _ (List.length_filter_le _ _)) _
theorem sz_canon {n : Nat} {ps : Mx} (h : SzM n ps) : SzM (1 + ps.length * (n + 1)) (canon ps) := fun p hp => by
  rw [(canon_keys hp).2]; exact sz_coef h _
end Q
end
section
set_option autoImplicit false
set_option linter.all false
namespace Q
/-! ### a dict that adds up -/
def fnd (l : Mx) (w : W) : Option (W × Rat) := l.find? fun p => p.1 == w
def get (l : Mx) (w : W) : Rat := ((fnd l w).map (·.2)).getD 0
def upd (l : Mx) (w : W) (q : Rat) : Mx := if ((fnd l w).map (·.2)).isSome = true then l.map (fun p => if (p.1 == w) = true then (p.1, q) else p) else l ++ [(w, q)]
structure Acc (ps l : Mx) : Prop where
  nd : (keys l).Nodup
  mem : ∀ w, w ∈ keys l ↔ w ∈ keys ps
  val : ∀ p ∈ l, p.2 = coef ps p.1
theorem acc_nil : Acc [] [] := ⟨List.nodup_nil, fun _ => Iff.rfl, fun _ h => by cases h⟩
theorem coef_snoc (ps : Mx) (v : W) (q : Rat) (w : W) : coef (ps ++ [(v, q)]) w = if w = v then coef ps w + q else coef ps w := by
  unfold coef
  rw [List.filter_append]
  by_cases h : w = v
  · subst h
    simp [sumQ]
  · rw [if_neg h]
    have : (v == w) = false := by simpa using fun e => h e.symm
    simp [this]
theorem coef_out {ps : Mx} {w : W} (h : w ∉ keys ps) : coef ps w = 0 := by
  unfold coef
  have : ps.filter (fun p => p.1 == w) = [] := by
    rw [List.filter_eq_nil_iff]
    intro p hp e
    exact h (List.mem_map.mpr ⟨p, hp, eq_of_beq e⟩)
  rw [this]
  rfl
theorem fnd_some {l : Mx} {w : W} {p : W × Rat} (h : fnd l w = some p) : p ∈ l ∧ p.1 = w := ⟨List.mem_of_find?_eq_some h, by simpa using List.find?_some h⟩
theorem fnd_none {l : Mx} {w : W} (h : fnd l w = none) : w ∉ keys l := by
  intro k
  obtain ⟨p, hp, e⟩ := List.mem_map.mp k
  have := List.find?_eq_none.mp h p hp
  simp [e] at this
theorem acc_get {ps l : Mx} (a : Acc ps l) (w : W) : get l w = coef ps w := by
  unfold get
  cases e : fnd l w with
  | none =>
    have := fnd_none e
    rw [a.mem] at this
    rw [coef_out this]
    rfl
  | some p =>
    obtain ⟨h1, h2⟩ := fnd_some e
    show p.2 = _
    rw [a.val p h1, h2]
theorem keys_upd (l : Mx) (w : W) (q : Rat) : keys (upd l w q) = if ((fnd l w).map (·.2)).isSome = true then keys l else keys l ++ [w] := by
  unfold upd keys
  split
  · rw [List.map_map]
    apply List.map_congr_left
    intro p _
    show (if (p.1 == w) = true then (p.1, q) else p).1 = p.1
    split <;> rfl
  · simp
theorem acc_step {ps l : Mx} (a : Acc ps l) (w : W) (q : Rat) : Acc (ps ++ [(w, q)]) (upd l w (get l w + q)) := by
  have hk : ∀ v, v ∈ keys (ps ++ [(w, q)]) ↔ v ∈ keys ps ∨ v = w := by intro v; simp [keys]
  cases e : fnd l w with
  | none =>
    have hw := fnd_none e
    refine ⟨?_, ?_, ?_⟩
    · rw [keys_upd, e]
      simp only [Option.map_none, Option.isSome_none, Bool.false_eq_true, if_false]
      exact List.nodup_append.mpr ⟨a.nd, by simp, by intro x hx y hy; simp at hy; subst hy; exact fun z => hw (z ▸ hx)⟩
    · intro v
      rw [keys_upd, e, hk]
      simp [a.mem]
    · intro p hp
      unfold upd at hp
      rw [e] at hp
      simp only [Option.map_none, Option.isSome_none, Bool.false_eq_true, if_false, List.mem_append, List.mem_singleton] at hp
      rcases hp with hp | rfl
      · have : p.1 ≠ w := fun z => hw (List.mem_map.mpr ⟨p, hp, z⟩)
        rw [coef_snoc, if_neg this]
        exact a.val p hp
      · rw [coef_snoc, if_pos rfl, acc_get a]
  | some r =>
    obtain ⟨h1, h2⟩ := fnd_some e
    have hw : w ∈ keys l := List.mem_map.mpr ⟨r, h1, h2⟩
    refine ⟨?_, ?_, ?_⟩
    · rw [keys_upd, e]
      exact a.nd
    · intro v
      rw [keys_upd, e, hk]
      simp only [Option.map_some, Option.isSome_some, if_true]
      rw [a.mem]
      constructor
      · exact .inl
      · rintro (h | rfl)
        · exact h
        · exact (a.mem _).mp hw
    · intro p hp
      unfold upd at hp
      rw [e] at hp
      simp only [Option.map_some, Option.isSome_some, if_true] at hp
      obtain ⟨p', hp', rfl⟩ := List.mem_map.mp hp
      split
      · rename_i z
        have z := eq_of_beq z
        show _ = coef _ p'.1
        rw [coef_snoc, if_pos z, acc_get a, z]
      · rename_i z
        have : p'.1 ≠ w := by simpa using z
        rw [coef_snoc, if_neg this]
        exact a.val p' hp'
def addAll (l ps : Mx) : Mx := ps.foldl (fun l p => upd l p.1 (get l p.1 + p.2)) l
theorem acc_all : ∀ (ps : Mx) {qs l : Mx}, Acc qs l → Acc (qs ++ ps) (addAll l ps)
  | [], qs, l, a => by simpa [addAll] using a
  | p :: ps, qs, l, a => by
    have := acc_all ps (acc_step a p.1 p.2)
    simpa [addAll] using this
theorem acc_done {ps l : Mx} (a : Acc ps l) : ((srtW ((keys l).filter fun w => get l w != 0)).map fun w => (w, get l w)) = canon ps := by
  have e : get l = coef ps := funext (acc_get a)
  rw [e]
  exact dict_mix_eq a.nd a.mem
theorem dd_len : ∀ l : List W, (dd l).length ≤ l.length
  | [] => Nat.le_refl _
  | a :: l => by
    unfold dd
    split
    · exact Nat.le_succ_of_le (dd_len l)
    · exact Nat.succ_le_succ (dd_len l)
theorem acc_len {ps l : Mx} (a : Acc ps l) : l.length ≤ ps.length := by
  have p := perm_of_mem a.nd (nd_dd (keys ps)) fun w => (a.mem w).trans mem_dd.symm
  have h1 := p.length_eq
  have h2 := dd_len (keys ps)
  unfold keys at h1 h2
  rw [List.length_map] at h1 h2
  omega
end Q
end
section
set_option Elab.async false
set_option linter.all false
set_option maxRecDepth 100000
set_option maxHeartbeats 2000000
/-! E1: the M terms run by simp. -/
namespace Rf
open PySem PySem.Spec L2
section
variable {α β : Type} {ρ ρ' : Env}
@[simp] theorem ev_pure (a : α) : M.pure a ρ = .ok a ρ := (rfl)
@[simp] theorem ev_bind (m : M α) (f : α → M β) : M.bind m f ρ = (m ρ).bind fun a ρ' => f a ρ' := (rfl)
@[simp] theorem ob_ok (a : α) (f : α → Env → Out β) : (Out.ok a ρ).bind f = f a ρ := (rfl)
@[simp] theorem ob_bad (f : α → Env → Out β) : (Out.bad).bind f = .bad := (rfl)
@[simp] theorem ob_ex (c : Nat) (ds : List D) (f : α → Env → Out β) : (Out.ex c ds ρ).bind f = .ex c ds ρ := (rfl)
@[simp] theorem lift_some (a : α) : M.lift (some a) ρ = .ok a ρ := (rfl)
@[simp] theorem lift_none : (M.lift none : M α) ρ = .bad := (rfl)
@[simp] theorem ev_seq (a b : MS) : seqM a b ρ = (a ρ).bind fun f ρ' => match f with
  | .nx => b ρ'
  | f => .ok f ρ' := by
  unfold seqM
  rw [ev_bind]
  congr 1
  funext f ρ'
  cases f <;> rfl
@[simp] theorem ev_nx : nxM ρ = .ok .nx ρ := (rfl)
@[simp] theorem ev_rt (m : M D) : rtM m ρ = (m ρ).bind fun d ρ' => .ok (.rt d) ρ' := (rfl)
@[simp] theorem ev_dr (m : M D) : drM m ρ = (m ρ).bind fun _ ρ' => .ok .nx ρ' := (rfl)
@[simp] theorem ev_as (p : Pat) (m : M D) : asM p m ρ = (m ρ).bind fun d ρ' => match bindP p d ρ' with
  | some ρ2 => .ok .nx ρ2
  | none => .bad := by
  unfold asM
  rw [ev_bind]
  all_goals congr 1
@[simp] theorem ev_asMu (i : Nat) (m : M D) : asMu i m ρ = (m ρ).bind fun d ρ' => if notIo (ρ' i) then .ok .nx (ρ'.put i (.mu d)) else .bad := (rfl)
@[simp] theorem ev_par2 (i j : Nat) (b c : Bool) (m n : M D) : par2 i j b c m n ρ = (m ρ).bind fun d ρ1 => (n ρ1).bind fun e ρ2 => if (notIo (ρ2 i) && notIo (ρ2 j)) = true then .ok .nx ((ρ2.put j (sl1 c e)).put i (sl1 b d)) else .bad := (rfl)
@[simp] theorem ev_if (c : M Bool) (a b : MS) : ifM c a b ρ = (c ρ).bind fun x ρ' => bif x then a ρ' else b ρ' := by
  unfold ifM
  rw [ev_bind]
  congr 1
  funext x ρ'
  cases x <;> rfl
@[simp] theorem ev_ite (c : M Bool) (a b : M α) : iteM c a b ρ = (c ρ).bind fun x ρ' => if x = true then a ρ' else b ρ' := by
  unfold iteM
  rw [ev_bind]
  congr 1
  funext x ρ'
  cases x <;> rfl
@[simp] theorem ev_bin (f : D → D → Option D) (a b : M D) : bin f a b ρ = (a ρ).bind fun x ρ1 => (b ρ1).bind fun y ρ2 => M.lift (f x y) ρ2 := (rfl)
@[simp] theorem ev_un1 (f : D → Option D) (a : M D) : un1 f a ρ = (a ρ).bind fun x ρ1 => M.lift (f x) ρ1 := (rfl)
@[simp] theorem ev_tst (m : M D) : tstM m ρ = (m ρ).bind fun d ρ1 => M.lift (truB d) ρ1 := (rfl)
@[simp] theorem ev_tru (m : M D) : truM m ρ = (m ρ).bind fun d ρ1 => M.lift (truD d) ρ1 := (rfl)
@[simp] theorem ev_andT (a b : M Bool) : andT a b ρ = (a ρ).bind fun c ρ1 => if c = true then b ρ1 else .ok false ρ1 := by
  unfold andT
  rw [ev_bind]
  congr 1
  funext x ρ'
  cases x <;> rfl
@[simp] theorem ev_orT (a b : M Bool) : orT a b ρ = (a ρ).bind fun c ρ1 => if c = true then .ok true ρ1 else b ρ1 := by
  unfold orT
  rw [ev_bind]
  congr 1
  funext x ρ'
  cases x <;> rfl
@[simp] theorem ev_notT (a : M Bool) : notT a ρ = (a ρ).bind fun c ρ1 => .ok (!c) ρ1 := (rfl)
@[simp] theorem ev_andM (a b : M D) : andM a b ρ = (a ρ).bind fun d ρ1 => (M.lift (truD d) ρ1).bind fun c ρ2 => if c = true then b ρ2 else .ok d ρ2 := by
  unfold andM
  rw [ev_bind]
  congr 1
  funext d ρ1
  rw [ev_bind]
  congr 1
  funext x ρ'
  cases x <;> rfl
@[simp] theorem ev_orM (a b : M D) : orM a b ρ = (a ρ).bind fun d ρ1 => (M.lift (truD d) ρ1).bind fun c ρ2 => if c = true then .ok d ρ2 else b ρ2 := by
  unfold orM
  rw [ev_bind]
  congr 1
  funext d ρ1
  rw [ev_bind]
  congr 1
  funext x ρ'
  cases x <;> rfl
@[simp] theorem ev_notM (a : M D) : notM a ρ = (a ρ).bind fun d ρ1 => (M.lift (truD d) ρ1).bind fun c ρ2 => .ok (.bool (!c)) ρ2 := (rfl)
def negD : D → Option D
  | .int i => some (.int (-i))
  | _ => none
@[simp] theorem negD_int (i : Int) : negD (.int i) = some (.int (-i)) := (rfl)
@[simp] theorem ev_neg (a : M D) : negM a ρ = (a ρ).bind fun d ρ1 => M.lift (negD d) ρ1 := by
  unfold negM
  rw [ev_bind]
  congr 1
@[simp] theorem ev_nil : nilM ρ = .ok [] ρ := (rfl)
@[simp] theorem ev_cons (a : M D) (r : M (List D)) : consM a r ρ = (a ρ).bind fun d ρ1 => (r ρ1).bind fun ds ρ2 => .ok (d :: ds) ρ2 := (rfl)
@[simp] theorem ev_star (a : M D) (r : M (List D)) : starM a r ρ = (a ρ).bind fun d ρ1 => (M.lift (itemsD d) ρ1).bind fun es ρ2 => (r ρ2).bind fun ds ρ3 => .ok (es ++ ds) ρ3 := (rfl)
@[simp] theorem ev_tup (m : M (List D)) : tupM m ρ = (m ρ).bind fun ds ρ1 => M.lift (if szOk ds.length then some (.tuple ds) else none) ρ1 := (rfl)
@[simp] theorem ev_lst (m : M (List D)) : lstM m ρ = (m ρ).bind fun ds ρ1 => M.lift (if szOk ds.length then some (.list ds) else none) ρ1 := (rfl)
@[simp] theorem ev_noPt : noPt ρ = .ok none ρ := (rfl)
def ptD : D → Option (Option Int)
  | .int i => some (some i)
  | _ => none
@[simp] theorem ptD_int (i : Int) : ptD (.int i) = some (some i) := (rfl)
@[simp] theorem ev_somePt (m : M D) : somePt m ρ = (m ρ).bind fun d ρ1 => M.lift (ptD d) ρ1 := by
  unfold somePt
  rw [ev_bind]
  congr 1
@[simp] theorem ev_sl (f : D → Option Int → Option Int → Option D) (a : M D) (l h : M (Option Int)) : slM f a l h ρ = (a ρ).bind fun d ρ1 => (l ρ1).bind fun lo ρ2 => (h ρ2).bind fun hi ρ3 => M.lift (f d lo hi) ρ3 := (rfl)
def Sl.rd : Sl → Option D
  | .im d | .mu d | .io d | .bo d => some d
  | .un => none
@[simp] theorem ev_rd (i : Nat) : rdM i ρ = match (ρ i).rd with
  | some d => .ok d ρ
  | none => .bad := by
  unfold rdM
  cases ρ i <;> rfl
@[simp] theorem rd_im (d : D) : (Sl.im d).rd = some d := (rfl)
@[simp] theorem rd_mu (d : D) : (Sl.mu d).rd = some d := (rfl)
@[simp] theorem rd_io (d : D) : (Sl.io d).rd = some d := (rfl)
@[simp] theorem rd_bo (d : D) : (Sl.bo d).rd = some d := (rfl)
def vrO (i : Nat) (ρ : Env) : Sl → Out D
  | .im d => .ok d ρ
  | .mu d => .ok d (ρ.put i (.im d))
  | _ => .bad
@[simp] theorem ev_vr (i : Nat) : vrM i ρ = vrO i ρ (ρ i) := by
  unfold vrM vrO
  cases ρ i <;> rfl
@[simp] theorem vrO_im (i : Nat) (d : D) : vrO i ρ (.im d) = .ok d ρ := (rfl)
@[simp] theorem vrO_mu (i : Nat) (d : D) : vrO i ρ (.mu d) = .ok d (ρ.put i (.im d)) := (rfl)
def wvO (i : Nat) (ρ : Env) : Sl → Out D
  | .bo d => .ok d ρ
  | s => vrO i ρ s
@[simp] theorem ev_wv (i : Nat) : wvM i ρ = wvO i ρ (ρ i) := by
  unfold wvM wvO
  cases e : ρ i <;> simp [e]
@[simp] theorem wvO_im (i : Nat) (d : D) : wvO i ρ (.im d) = .ok d ρ := (rfl)
@[simp] theorem wvO_bo (i : Nat) (d : D) : wvO i ρ (.bo d) = .ok d ρ := (rfl)
@[simp] theorem wvO_mu (i : Nat) (d : D) : wvO i ρ (.mu d) = .ok d (ρ.put i (.im d)) := (rfl)
def mvO (i : Nat) (ρ : Env) : Sl → Out D
  | .mu d => .ok d (ρ.put i .un)
  | _ => .bad
@[simp] theorem ev_mv (i : Nat) : mvM i ρ = mvO i ρ (ρ i) := by
  unfold mvM mvO
  cases ρ i <;> rfl
@[simp] theorem mvO_mu (i : Nat) (d : D) : mvO i ρ (.mu d) = .ok d (ρ.put i .un) := (rfl)
@[simp] theorem ev_its (m : M D) : itsM m ρ = (m ρ).bind fun d ρ1 => M.lift (itemsD d) ρ1 := (rfl)
@[simp] theorem ev_itsU (m : M D) : itsU m ρ = (m ρ).bind fun d ρ1 => M.lift (itemsU d) ρ1 := (rfl)
@[simp] theorem ev_over (f : List D → Option (List D)) (m : M (List D)) : overM f m ρ = (m ρ).bind fun ds ρ1 => M.lift (f ds) ρ1 := (rfl)
@[simp] theorem items_list (ds : List D) : itemsD (.list ds) = some ds := (rfl)
@[simp] theorem items_tuple (ds : List D) : itemsD (.tuple ds) = some ds := (rfl)
@[simp] theorem itemsU_list (ds : List D) : itemsU (.list ds) = some ds := (rfl)
@[simp] theorem itemsU_tuple (ds : List D) : itemsU (.tuple ds) = some ds := (rfl)
@[simp] theorem ev_isM (T : String) (m : M D) : isM T m ρ = (m ρ).bind fun d ρ1 => M.lift (if noDic d then some (.bool (isD T d)) else none) ρ1 := (rfl)
@[simp] theorem ev_is2M (T U : String) (m : M D) : is2M T U m ρ = (m ρ).bind fun d ρ1 => M.lift (if noDic d then some (.bool (isD T d || isD U d)) else none) ρ1 := (rfl)
@[simp] theorem yes_ev : yesM ρ = .ok true ρ := (rfl)
@[simp] theorem ev_el (m : M D) : elM m ρ = (m ρ).bind fun d ρ1 => .ok [d] ρ1 := (rfl)
@[simp] theorem ev_step (p : Pat) (tt : M Bool) (tb : M (List D)) (d : D) : stepM p tt tb d ρ = match bindP p d ρ with
  | none => .bad
  | some ρ1 => (tt ρ1).bind fun b ρ2 => bif b then tb ρ2 else .ok [] ρ2 := (rfl)
@[simp] theorem bindP_nm (i : Nat) (d : D) : bindP (.nm i) d ρ = if notIo (ρ i) then some (ρ.put i (.im d)) else none := (rfl)
@[simp] theorem bindP_tpT (ps : List Pat) (ds : List D) : bindP (.tp ps) (.tuple ds) ρ = bindPs ps ds ρ := (rfl)
@[simp] theorem bindP_tpL (ps : List Pat) (ds : List D) : bindP (.tp ps) (.list ds) ρ = bindPs ps ds ρ := (rfl)
@[simp] theorem bindPs_nil : bindPs [] [] ρ = some ρ := (rfl)
@[simp] theorem bindPs_cons (p : Pat) (ps : List Pat) (d : D) (ds : List D) : bindPs (p :: ps) (d :: ds) ρ = match bindP p d ρ with
  | some ρ' => bindPs ps ds ρ'
  | none => none := (rfl)
@[simp] theorem notIo_im (d : D) : notIo (.im d) = true := (rfl)
@[simp] theorem notIo_mu (d : D) : notIo (.mu d) = true := (rfl)
@[simp] theorem notIo_un : notIo .un = true := (rfl)
@[simp] theorem notIo_bo (d : D) : notIo (.bo d) = true := (rfl)
@[simp] theorem put_get (i j : Nat) (s : Sl) : (ρ.put i s) j = if j = i then s else ρ j := (rfl)
@[simp] theorem entE_at (ms : List Md) (ds : List D) (i : Nat) : entE ms ds i = match ms[i]?, ds[i]? with
  | some .dt, some d => .im d
  | some .io, some d => .io d
  | some .bo, some d => .bo d
  | _, _ => .un := (rfl)
@[simp] theorem upM_get (i j : Nat) (d : D) : (upM ρ i d) j = if j = i then (ρ i).withV d else ρ j := (rfl)
@[simp] theorem sl1_t (d : D) : sl1 true d = .mu d := (rfl)
@[simp] theorem sl1_f (d : D) : sl1 false d = .im d := (rfl)
@[simp] theorem val_mu (d : D) : (Sl.mu d).val = some d := (rfl)
@[simp] theorem val_io (d : D) : (Sl.io d).val = some d := (rfl)
@[simp] theorem withV_mu (d e : D) : (Sl.mu d).withV e = .mu e := (rfl)
@[simp] theorem withV_io (d e : D) : (Sl.io d).withV e = .io e := (rfl)
theorem put_other {i j : Nat} {s : Sl} (h : (j == i) = false) : (ρ.put i s) j = ρ j := put_ne (by simpa using h)
/-! ### values -/
@[simp] theorem truB_bool (b : Bool) : truB (.bool b) = some b := (rfl)
@[simp] theorem truD_bool (b : Bool) : truD (.bool b) = some b := (rfl)
@[simp] theorem truD_list (ds : List D) : truD (.list ds) = some (!ds.isEmpty) := (rfl)
@[simp] theorem truD_tuple (ds : List D) : truD (.tuple ds) = some (!ds.isEmpty) := (rfl)
@[simp] theorem truD_none : truD .none = some false := (rfl)
@[simp] theorem add_int (i j : Int) : addU (.int i) (.int j) = some (.int (i + j)) := (rfl)
theorem add_tup {xs ys : List D} (h : szOk (xs.length + ys.length) = true) : addU (.tuple xs) (.tuple ys) = some (.tuple (xs ++ ys)) := by
  unfold addU addD
  simp [h]
theorem add_list {xs ys : List D} (h : szOk (xs.length + ys.length) = true) : addU (.list xs) (.list ys) = some (.list (xs ++ ys)) := by
  unfold addU addD catD
  simp [h]
@[simp] theorem sub_int (i j : Int) : subD (.int i) (.int j) = some (.int (i - j)) := (rfl)
theorem mul_int {i j : Int} (h : mulOk i j = true) : mulD (.int i) (.int j) = some (.int (i * j)) := (if_pos h : (if mulOk i j = true then some (PyData.int (i * j)) else none) = _)
theorem fdiv_int {i j : Int} (h : divOk j = true) : fdivD (.int i) (.int j) = some (.int (i.fdiv j)) := (if_pos h : (if divOk j = true then some (PyData.int (i.fdiv j)) else none) = _)
theorem mod_int {i j : Int} (h : j ≠ 0) : modD (.int i) (.int j) = some (.int (i.fmod j)) := (if_pos (decide_eq_true h) : (if decide (j ≠ 0) = true then some (PyData.int (i.fmod j)) else none) = _)
@[simp] theorem gcd_int (i j : Int) : gcdD (.int i) (.int j) = some (.int (Nat.gcd i.natAbs j.natAbs : Nat)) := (rfl)
@[simp] theorem abs_int (i : Int) : absD (.int i) = some (.int (i.natAbs : Nat)) := by
  show some (PyData.int (if i < 0 then -i else i)) = _
  congr 2
  split <;> omega
@[simp] theorem intD_int (i : Int) : intD (.int i) = some (.int i) := (rfl)
@[simp] theorem ge_int (i j : Int) : geD (.int i) (.int j) = some (.bool (decide (j ≤ i))) := (rfl)
@[simp] theorem gt_int (i j : Int) : gtD (.int i) (.int j) = some (.bool (decide (j < i))) := (rfl)
@[simp] theorem le_int (i j : Int) : leD (.int i) (.int j) = some (.bool (decide (i ≤ j))) := (rfl)
@[simp] theorem lt_int (i j : Int) : ltD (.int i) (.int j) = some (.bool (decide (i < j))) := by
  unfold ltD
  rw [if_pos (by rfl), PySem.W.dataLt_int]
@[simp] theorem lenD_list (ds : List D) : lenD (.list ds) = some (.int (ds.length : Nat)) := (rfl)
@[simp] theorem lenD_tuple (ds : List D) : lenD (.tuple ds) = some (.int (ds.length : Nat)) := (rfl)
end
/-! ### calls -/
section
variable {ρ : Env}
def ocV (f : Fn) (ms : List Md) (l : List Ar) (ρ1 : Env) : Option (List D) → Out D
  | none => .bad
  | some vals => match f vals with
    | .ok d os => .ok d (putO (ioS ms l) os ρ1)
    | .ex c es os => .ex c es (putO (ioS ms l) os ρ1)
    | .bad => .bad
@[simp] theorem ocV_none (f : Fn) (ms : List Md) (l : List Ar) : ocV f ms l ρ none = .bad := (rfl)
theorem ocV_ok {f : Fn} {ms : List Md} {l : List Ar} {vs : List D} {d : D} {os : List D} (h : f vs = .ok d os) : ocV f ms l ρ (some vs) = .ok d (putO (ioS ms l) os ρ) := by
  unfold ocV
  dsimp only
  rw [h]
theorem ocV_ex {f : Fn} {ms : List Md} {l : List Ar} {vs : List D} {c : Nat} {es os : List D} (h : f vs = .ex c es os) : ocV f ms l ρ (some vs) = .ex c es (putO (ioS ms l) os ρ) := by
  unfold ocV
  dsimp only
  rw [h]
@[simp] theorem ev_call (f : Fn) (ms : List Md) (l : List Ar) : callM f ms l ρ = (arM l ρ).bind fun ds ρ1 => ocV f ms l ρ1 (callV ρ1 ms l ds) := by
  unfold callM
  congr 1
@[simp] theorem arM_nil : arM [] ρ = .ok [] ρ := (rfl)
@[simp] theorem arM_dt (m : M D) (r : List Ar) : arM (.dt m :: r) ρ = (m ρ).bind fun d ρ1 => (arM r ρ1).bind fun ds ρ2 => .ok (some d :: ds) ρ2 := (rfl)
@[simp] theorem arM_nm (i : Nat) (r : List Ar) : arM (.nm i :: r) ρ = if sees ρ i = true then (arM r ρ).bind fun ds ρ' => .ok (none :: ds) ρ' else .bad := (rfl)
theorem sees_of {i : Nat} {s : Sl} (h : ρ i = s) (hs : s ≠ .un) : sees ρ i = true := by
  unfold sees
  rw [h]
  cases s with
  | un => exact absurd rfl hs
  | _ => rfl
@[simp] theorem callV_nil : callV ρ [] [] [] = some [] := (rfl)
@[simp] theorem callV_dt (ms : List Md) (m : M D) (l : List Ar) (d : D) (ds : List (Option D)) : callV ρ (.dt :: ms) (.dt m :: l) (some d :: ds) = consO (some d) (callV ρ ms l ds) := (rfl)
@[simp] theorem callV_bd (ms : List Md) (m : M D) (l : List Ar) (d : D) (ds : List (Option D)) : callV ρ (.bo :: ms) (.dt m :: l) (some d :: ds) = consO (some d) (callV ρ ms l ds) := (rfl)
@[simp] theorem callV_bn (ms : List Md) (i : Nat) (l : List Ar) (d : Option D) (ds : List (Option D)) : callV ρ (.bo :: ms) (.nm i :: l) (d :: ds) = consO (ρ i).rd (callV ρ ms l ds) := by
  show consO (rdSl (ρ i)) _ = _
  congr 1
@[simp] theorem callV_io (ms : List Md) (i : Nat) (l : List Ar) (d : Option D) (ds : List (Option D)) : callV ρ (.io :: ms) (.nm i :: l) (d :: ds) = consO (ρ i).val (callV ρ ms l ds) := (rfl)
@[simp] theorem consO_some (d : D) (ds : List D) : consO (some d) (some ds) = some (d :: ds) := (rfl)
@[simp] theorem ioS_nil : ioS [] [] = [] := (rfl)
@[simp] theorem ioS_dt (ms : List Md) (a : Ar) (l : List Ar) : ioS (.dt :: ms) (a :: l) = ioS ms l := by cases a <;> rfl
@[simp] theorem ioS_bo (ms : List Md) (a : Ar) (l : List Ar) : ioS (.bo :: ms) (a :: l) = ioS ms l := by cases a <;> rfl
@[simp] theorem ioS_io (ms : List Md) (i : Nat) (l : List Ar) : ioS (.io :: ms) (.nm i :: l) = i :: ioS ms l := (rfl)
@[simp] theorem putO_nil (os : List D) : putO [] os ρ = ρ := (rfl)
@[simp] theorem putO_one (i : Nat) (d : D) : putO [i] [d] ρ = upM ρ i d := (rfl)
/-! ### functions -/
theorem fn_rt {ms : List Md} {fr : Bool} {m : MS} {ds : List D} {d : D} {ρ' : Env} (h : m (entE ms ds) = .ok (.rt d) ρ') : fnOf ms fr m ds = .ok d (outs ms 0 ρ') := by
  unfold fnOf
  rw [h]
theorem fn_ex {ms : List Md} {fr : Bool} {m : MS} {ds : List D} {c : Nat} {es : List D} {ρ' : Env} (h : m (entE ms ds) = .ex c es ρ') : fnOf ms fr m ds = .ex c es (outs ms 0 ρ') := by
  unfold fnOf
  rw [h]
@[simp] theorem outs_nil (i : Nat) : outs [] i ρ = [] := (rfl)
@[simp] theorem outs_dt (ms : List Md) (i : Nat) : outs (.dt :: ms) i ρ = outs ms (i + 1) ρ := (rfl)
@[simp] theorem outs_bo (ms : List Md) (i : Nat) : outs (.bo :: ms) i ρ = outs ms (i + 1) ρ := (rfl)
@[simp] theorem outs_io (ms : List Md) (i : Nat) : outs (.io :: ms) i ρ = ((ρ i).val.getD .none) :: outs ms (i + 1) ρ := (rfl)
/-! ### comprehensions -/
@[simp] theorem wipe_at (js : List Nat) (j : Nat) : wipeE ρ js j = bif js.contains j then .un else ρ j := (rfl)
def Agr (js : List Nat) (ρ' ρ : Env) : Prop := ∀ j, js.contains j = false → ρ' j = ρ j
theorem agr_wipe {js : List Nat} : Agr js (wipeE ρ js) ρ := fun j h => by rw [wipe_at, h]; rfl
theorem agr_put {js : List Nat} {ρ' : Env} {i : Nat} {s : Sl} (a : Agr js ρ' ρ) (hi : js.contains i = true) : Agr js (ρ'.put i s) ρ := fun j h => by
  rw [put_ne]
  · exact a j h
  · intro z
    rw [z, hi] at h
    cases h
theorem rest_agr {js : List Nat} {ρ' : Env} (a : Agr js ρ' ρ) : restE ρ js ρ' = ρ := by
  funext j
  show (bif js.contains j then ρ j else ρ' j) = ρ j
  cases h : js.contains j with
  | true => rfl
  | false => exact a j h
theorem lcL_gen {α : Type} {js : List Nat} {step : D → M (List D)} {enc : α → D} {r : α → List D} : ∀ {xs : List α}, (∀ x ∈ xs, ∃ ρ2, step (enc x) (wipeE ρ js) = .ok (r x) ρ2 ∧ Agr js ρ2 ρ) → lcL js step (xs.map enc) ρ = .ok (xs.flatMap r) ρ
  | [], _ => rfl
  | x :: xs, h => by
    obtain ⟨ρ2, e, a⟩ := h x List.mem_cons_self
    show (step (enc x) (wipeE ρ js)).bind _ = _
    rw [e, ob_ok, rest_agr a, lcL_gen fun y hy => h y (List.mem_cons_of_mem _ hy)]
    rfl
theorem cl_gen {α : Type} {src : M (List D)} {js : List Nat} {step : D → M (List D)} (xs : List α) (enc : α → D) (r : α → List D) (h1 : src ρ = .ok (xs.map enc) ρ) (hn : nonM ρ js = true) (hs : ∀ x ∈ xs, ∃ ρ2, step (enc x) (wipeE ρ js) = .ok (r x) ρ2 ∧ Agr js ρ2 ρ) :
    clM src js step ρ = .ok (xs.flatMap r) ρ := by
  simp only [clM, noEx, h1, ob_ok, hn, cond_true, lcL_gen hs]
theorem comp_gen {α : Type} {src : M (List D)} {js : List Nat} {step : D → M (List D)} (xs : List α) (enc : α → D) (r : α → List D) (h1 : src ρ = .ok (xs.map enc) ρ) (hn : nonM ρ js = true) (hl : szOk (xs.flatMap r).length = true) (hs : ∀ x ∈ xs, ∃ ρ2, step (enc x) (wipeE ρ js) = .ok (r x) ρ2 ∧ Agr js ρ2 ρ) :
    compM src js step ρ = .ok (.list (xs.flatMap r)) ρ := by
  unfold compM
  rw [ev_bind, cl_gen xs enc r h1 hn hs, ob_ok, hl]
  rfl
theorem comp_map {α : Type} {src : M (List D)} {js : List Nat} {step : D → M (List D)} (xs : List α) (enc f : α → D) (h1 : src ρ = .ok (xs.map enc) ρ) (hn : nonM ρ js = true) (hl : szOk xs.length = true) (hs : ∀ x ∈ xs, ∃ ρ2, step (enc x) (wipeE ρ js) = .ok [f x] ρ2 ∧ Agr js ρ2 ρ) :
    compM src js step ρ = .ok (.list (xs.map f)) ρ := by
  have e : ∀ ys : List α, ys.flatMap (fun x => [f x]) = ys.map f := by
    intro ys
    induction ys with
    | nil => rfl
    | cons x ys ih => rw [List.flatMap_cons, ih]; rfl
  rw [comp_gen xs enc (fun x => [f x]) h1 hn (by rw [e, List.length_map]; exact hl) hs, e]
theorem comp_filt {α : Type} {src : M (List D)} {js : List Nat} {step : D → M (List D)} (xs : List α) (enc f : α → D) (g : α → Bool) (h1 : src ρ = .ok (xs.map enc) ρ) (hn : nonM ρ js = true) (hl : szOk xs.length = true) (hs : ∀ x ∈ xs, ∃ ρ2, step (enc x) (wipeE ρ js) = .ok (if g x = true then [f x] else []) ρ2 ∧ Agr js ρ2 ρ) :
    compM src js step ρ = .ok (.list ((xs.filter g).map f)) ρ := by
  have e : ∀ ys : List α, ys.flatMap (fun x => if g x = true then [f x] else []) = (ys.filter g).map f := by
    intro ys
    induction ys with
    | nil => rfl
    | cons x ys ih =>
      rw [List.flatMap_cons, ih]
      cases h : g x <;> simp [h]
  rw [comp_gen xs enc _ h1 hn ?_ hs, e]
  rw [e, List.length_map]
  unfold szOk at *
  exact Nat.ble_eq_true_of_le (Nat.le_trans (List.length_filter_le _ _) (Nat.le_of_ble_eq_true hl))
/-- what is returned -/
def retO : Out Fl → Option D
  | .ok (.rt d) _ => some d
  | _ => none
@[simp] theorem retO_ok (d : D) : retO (.ok (.rt d) ρ) = some d := (rfl)
theorem retO_of {o : Out Fl} {d : D} (h : retO o = some d) : ∃ ρ', o = .ok (.rt d) ρ' := by
  cases o with
  | ok f ρ' =>
    cases f with
    | rt e => cases h; exact ⟨ρ', rfl⟩
    | _ => cases h
  | _ => cases h
def allIn : List Md → Bool
  | [] => true
  | .io :: _ => false
  | _ :: r => allIn r
theorem outs_in : ∀ {ms : List Md} {i : Nat}, allIn ms = true → outs ms i ρ = []
  | [], _, _ => rfl
  | .dt :: ms, i, h => outs_in (ms := ms) (i := i + 1) h
  | .bo :: ms, i, h => outs_in (ms := ms) (i := i + 1) h
theorem fn_ret {ms : List Md} {fr : Bool} {m : MS} {ds : List D} {d : D} (h : retO (m (entE ms ds)) = some d) (hi : allIn ms = true := by rfl) : fnOf ms fr m ds = .ok d [] := by
  obtain ⟨ρ', e⟩ := retO_of h
  rw [fn_rt e, outs_in hi]
theorem szOk_of {n : Nat} (h : n ≤ 16777216) : szOk n = true := Nat.ble_eq_true_of_le h
end
end Rf
end
section
set_option Elab.async false
set_option linter.all false
set_option maxRecDepth 100000
set_option maxHeartbeats 2000000
/-! E2: loops. -/
namespace Rf
open PySem PySem.Spec L2
section
variable {ρ ρ' : Env}
theorem whM_le {c : M Bool} {b : MS} {n m : Nat} {f : Fl} (h : whM c b n ρ = .ok f ρ') (hm : n ≤ m) : whM c b m ρ = .ok f ρ' := by
  induction m with
  | zero =>
    have : n = 0 := by omega
    subst this
    exact h
  | succ m ih =>
    by_cases e : n = m + 1
    · subst e
      exact h
    · exact whM_more (ih (by omega))
theorem while_eq {c : M Bool} {b : MS} {n : Nat} {f : Fl} (h : whM c b n ρ = .ok f ρ') : whileM c b ρ = .ok f ρ' := by
  have ex : ∃ n, ∃ f ρ', whM c b n ρ = .ok f ρ' := ⟨n, f, ρ', h⟩
  unfold whileM
  rw [dif_pos ex]
  obtain ⟨f2, ρ2, h2⟩ := ex.choose_spec
  have a := whM_le h (Nat.le_max_left n ex.choose)
  have b := whM_le h2 (Nat.le_max_right n ex.choose)
  rw [a] at b
  rw [h2, b]
theorem fo_run {α : Type} {p : Pat} {b : MS} {enc : α → D} (P : List α → Env → Prop) : ∀ (zs ys : List α) {ρ : Env}, P ys ρ →
    (∀ ws x us ρ, ys ++ zs = ws ++ x :: us → P ws ρ → ∃ ρ1 ρ', bindP p (enc x) ρ = some ρ1 ∧ b ρ1 = .ok .nx ρ' ∧ P (ws ++ [x]) ρ') → ∃ ρ', foL p b (zs.map enc) ρ = .ok .nx ρ' ∧ P (ys ++ zs) ρ'
  | [], ys, ρ, h, _ => ⟨ρ, rfl, by simpa using h⟩
  | z :: zs, ys, ρ, h, hs => by
    obtain ⟨ρ1, ρ2, e1, e2, h2⟩ := hs ys z zs ρ rfl h
    obtain ⟨ρ', e3, h3⟩ := fo_run P zs (ys ++ [z]) h2 (by simpa using hs)
    refine ⟨ρ', ?_, by simpa using h3⟩
    show (match bindP p (enc z) ρ with
      | none => Out.bad
      | some ρ1 => (b ρ1).bind fun f ρ2 => match f with
        | .nx => foL p b (zs.map enc) ρ2
        | .ct => foL p b (zs.map enc) ρ2
        | .bk => .ok .nx ρ2
        | .rt d => .ok (.rt d) ρ2) = _
    rw [e1]
    dsimp only
    rw [e2]
    exact e3
/-- a loop that goes on in each turn -/
theorem for_run {α : Type} {src : M (List D)} {p : Pat} {b : MS} (xs : List α) (enc : α → D) (P : List α → Env → Prop) {ρ0 : Env} (h1 : src ρ = .ok (xs.map enc) ρ0) (h0 : P [] ρ0)
    (hs : ∀ ws x us ρ, xs = ws ++ x :: us → P ws ρ → ∃ ρ1 ρ', bindP p (enc x) ρ = some ρ1 ∧ b ρ1 = .ok .nx ρ' ∧ P (ws ++ [x]) ρ') : ∃ ρ', forM' src p b ρ = .ok .nx ρ' ∧ P xs ρ' := by
  obtain ⟨ρ', e, h⟩ := fo_run P xs [] h0 (by simpa using hs)
  refine ⟨ρ', ?_, by simpa using h⟩
  unfold forM'
  rw [ev_bind, h1, ob_ok]
  exact e
end
end Rf
end
section
set_option Elab.async false
set_option linter.all false
set_option maxRecDepth 100000
set_option maxHeartbeats 2000000
/-! S1: FRACTIONS, first defs. -/
namespace Rf
open PySem PySem.Spec L2
def eW (w : Q.W) : D := .tuple (w.map .int)
def eF (q : Rat) : D := .tuple [.int q.num, .int (q.den : Nat)]
def eP (p : Q.W × Rat) : D := .tuple [eW p.1, eF p.2]
def eM (m : Q.Mx) : D := .tuple (m.map eP)
theorem log_lt {a n : Nat} (h : a < 2 ^ n) (hn : 0 < n) : a.log2 < n := by
  by_cases z : a = 0
  · subst z
    simpa using hn
  · exact (Nat.log2_lt z).mpr h
theorem mul_ok {i j : Int} {n m : Nat} (hi : i.natAbs < 2 ^ n) (hj : j.natAbs < 2 ^ m) (h : n + m + 4 ≤ 134217728) : mulOk i j = true := by
  have a := log_lt (n := n + 1) (Nat.lt_of_lt_of_le hi (Nat.pow_le_pow_right (by omega) (by omega))) (by omega)
  have b := log_lt (n := m + 1) (Nat.lt_of_lt_of_le hj (Nat.pow_le_pow_right (by omega) (by omega))) (by omega)
  exact Nat.ble_eq_true_of_le (by omega)
theorem div_ok {j : Int} {n : Nat} (h0 : j ≠ 0) (hj : j.natAbs < 2 ^ n) (h : n ≤ 8999) : divOk j = true := by
  unfold divOk
  have a := log_lt (n := n + 1) (Nat.lt_of_lt_of_le hj (Nat.pow_le_pow_right (by omega) (by omega))) (by omega)
  rw [Bool.and_eq_true]
  exact ⟨decide_eq_true h0, by
    have : j.natAbs.log2 < 9000 := by omega
    exact Nat.ble_eq_true_of_le this⟩
/-- part_of -/
def Ok7 (T : Nat → Fn) : Prop := ∀ (a b : Int), b ≠ 0 → b.natAbs < 2 ^ 8800 → T 7 [.int a, .int b] = .ok (eF (Rat.divInt a b)) []
theorem ok7 (T : Nat → Fn) : Ok7 (S0.up T) := fun a b hb hs => by
  rw [u7]
  have g0 : (Int.gcd a b) ≠ 0 := by
    intro z
    exact hb (Int.gcd_eq_zero_iff.mp z).2
  have gl : Int.gcd a b < 2 ^ 8800 := Nat.lt_of_le_of_lt (Nat.le_of_dvd (by omega) (Nat.gcd_dvd_right _ _)) hs
  obtain ⟨h1, h2⟩ := Q.frac_prog (top := a) hb _ rfl
  have ge : Nat.gcd a.natAbs b.natAbs = Int.gcd a b := rfl
  refine fn_ret ?_
  by_cases hn : b < 0
  · have d : divOk (-(Int.gcd a b : Int)) = true := div_ok (by omega) (n := 8800) (by omega) (by omega)
    rw [if_pos hn] at h1 h2
    simp [f7, ge, hn, fdiv_int d, h1, h2, eF, szOk]
  · have d : divOk (Int.gcd a b : Int) = true := div_ok (by omega) (n := 8800) (by omega) (by omega)
    rw [if_neg hn] at h1 h2
    simp [f7, ge, hn, fdiv_int d, h1, h2, eF, szOk]
/-- a[b] of what is written -/
@[simp] theorem ix_t0 (a : D) (r : List D) : ixU (.tuple (a :: r)) (.int 0) = some a := by simp [ixU, ixD, atI, ixN]
@[simp] theorem ix_t1 (a b : D) (r : List D) : ixU (.tuple (a :: b :: r)) (.int 1) = some b := by
  have : (1 : Int) < (r.length : Int) + 1 + 1 := by omega
  simp [ixU, ixD, atI, ixN, this]
theorem eq_int (i j : Int) : eqD (.int i) (.int j) = some (.bool (decide (i = j))) := by
  show some (PyData.bool (i == j)) = _
  congr 2
theorem ne_int (i j : Int) : neD (.int i) (.int j) = some (.bool (!decide (i = j))) := by
  show some (PyData.bool (!(i == j))) = _
  congr 2
/-- part_plus -/
def Sm (q : Rat) : Prop := Q.Sz 4000 q
theorem sm_mul {p q : Rat} (hp : Sm p) (hq : Sm q) : mulOk p.num q.num = true ∧ mulOk p.num q.den = true ∧ mulOk q.num p.den = true ∧ mulOk p.den q.den = true := by
  have a1 : (p.den : Int).natAbs < 2 ^ 4000 := hp.2
  have a2 : (q.den : Int).natAbs < 2 ^ 4000 := hq.2
  exact ⟨mul_ok hp.1 hq.1 (by omega), mul_ok hp.1 a2 (by omega), mul_ok hq.1 a1 (by omega), mul_ok a1 a2 (by omega)⟩
theorem sm_den {p q : Rat} (hp : Sm p) (hq : Sm q) : (p.den : Int) * q.den ≠ 0 ∧ ((p.den : Int) * q.den).natAbs < 2 ^ 8800 :=
  ⟨Int.ne_of_gt (Int.mul_pos (Q.den_pos p) (Q.den_pos q)), Nat.lt_of_lt_of_le (Q.sz_den hp hq) (Nat.pow_le_pow_right (by omega) (by omega))⟩
theorem eF_int {q : Rat} {n : Int} (h1 : q.num = n) (h2 : q.den = 1) : PyData.tuple [.int n, .int 1] = eF q := by
  unfold eF
  rw [h1, h2]
  rfl
def Ok8 (T : Nat → Fn) : Prop := ∀ (p q : Rat), Sm p → Sm q → T 8 [eF p, eF q] = .ok (eF (p + q)) []
theorem ok8 {T : Nat → Fn} (h7 : Ok7 T) : Ok8 (S0.up T) := fun p q hp hq => by
  rw [u8]
  obtain ⟨m1, m2, m3, m4⟩ := sm_mul hp hq
  obtain ⟨d1, d2⟩ := sm_den hp hq
  refine fn_ret ?_
  rw [Q.add_div]
  by_cases h1 : (p.den : Int) = 1 ∧ (q.den : Int) = 1
  · obtain ⟨h1, h2⟩ := h1
    obtain ⟨e1, e2⟩ := Q.divInt_one (p.num + q.num)
    have : (p.num * (q.den : Int) + q.num * p.den) = p.num + q.num := by rw [h1, h2]; simp
    rw [this, h1, h2, Int.one_mul]
    simp [f8, eF, eq_int, h1, h2, szOk, e1, e2]
  · have hh : ((p.den : Int) = 1 → ¬ (q.den : Int) = 1) := fun a b => h1 ⟨a, b⟩
    have c := h7 (p.num * q.den + q.num * p.den) (p.den * q.den) d1 d2
    by_cases h2 : (p.den : Int) = 1
    · rw [h2] at m3 m4 c ⊢
      simp only [Int.one_mul, Int.mul_one] at c ⊢
      simp [f8, eF, eq_int, h2, hh h2, mul_int m2, mul_int m3, mul_int m4, ocV_ok c, -Rat.divInt_ofNat]
    · simp [f8, eF, eq_int, h2, mul_int m2, mul_int m3, mul_int m4, ocV_ok c]
/-- part_times -/
def Ok9 (T : Nat → Fn) : Prop := ∀ (p q : Rat), Sm p → Sm q → T 9 [eF p, eF q] = .ok (eF (p * q)) []
theorem ok9 {T : Nat → Fn} (h7 : Ok7 T) : Ok9 (S0.up T) := fun p q hp hq => by
  rw [u9]
  obtain ⟨m1, m2, m3, m4⟩ := sm_mul hp hq
  obtain ⟨d1, d2⟩ := sm_den hp hq
  refine fn_ret ?_
  rw [Q.mul_div]
  by_cases h1 : (p.den : Int) = 1 ∧ (q.den : Int) = 1
  · obtain ⟨h1, h2⟩ := h1
    obtain ⟨e1, e2⟩ := Q.divInt_one (p.num * q.num)
    rw [h1, h2, Int.one_mul]
    simp [f9, eF, eq_int, h1, h2, szOk, e1, e2, mul_int m1]
  · have hh : ((p.den : Int) = 1 → ¬ (q.den : Int) = 1) := fun a b => h1 ⟨a, b⟩
    have c := h7 (p.num * q.num) (p.den * q.den) d1 d2
    by_cases h2 : (p.den : Int) = 1
    · rw [h2] at m4 c ⊢
      simp only [Int.one_mul, Int.mul_one] at c ⊢
      simp [f9, eF, eq_int, h2, hh h2, mul_int m1, mul_int m4, ocV_ok c, -Rat.divInt_ofNat]
    · simp [f9, eF, eq_int, h2, mul_int m1, mul_int m4, ocV_ok c]
end Rf
end
section
set_option Elab.async false
set_option linter.all false
set_option maxRecDepth 100000
set_option maxHeartbeats 2000000
/-! S2: the law's FRACTIONS. -/
namespace Rf
open PySem PySem.Spec L2
def wC : M Bool := tstM (bin gtD (rdM 3) (M.pure (PyData.int 0)))
def wB : MS := seqM (par2 2 3 false false (vrM 3) (bin modD (un1 intD (rdM 2)) (rdM 3))) nxM
theorem euclid : ∀ (n : Nat) (a b : Nat) (ρ : Env), b ≤ n → ρ 2 = .im (.int (a : Nat)) → ρ 3 = .im (.int (b : Nat)) → ∃ ρ', whM wC wB (n + 1) ρ = .ok .nx ρ' ∧ ρ' 2 = .im (.int (Nat.gcd a b : Nat)) ∧ ∀ j, j ≠ 2 → j ≠ 3 → ρ' j = ρ j
  | n, a, 0, ρ, h, h2, h3 => by
    refine ⟨ρ, ?_, by rw [h2]; simp, fun _ _ _ => rfl⟩
    unfold whM
    simp [wC, h3]
  | 0, a, b + 1, ρ, h, h2, h3 => absurd h (by omega)
  | n + 1, a, b + 1, ρ, h, h2, h3 => by
    have hb : ((b : Int) + 1) ≠ 0 := by omega
    have e : ((a : Int).fmod ((b : Int) + 1)) = ((a % (b + 1) : Nat) : Int) := by
      rw [Int.fmod_eq_emod_of_nonneg _ (by omega)]
      simp
    obtain ⟨ρ', e1, e2, e3⟩ := euclid n (b + 1) (a % (b + 1)) ((ρ.put 3 (.im (.int (a % (b + 1) : Nat)))).put 2 (.im (.int ((b + 1 : Nat))))) (by have := Nat.mod_lt a (show b + 1 > 0 by omega); omega) (by simp) (by simp)
    refine ⟨ρ', ?_, ?_, fun j j2 j3 => ?_⟩
    · have hp : (0 : Int) < (b : Int) + 1 := by omega
      rw [← e1]
      conv => lhs; unfold whM
      simp [wC, wB, h3, h2, mod_int hb, e, hp]
    · rw [e2, Nat.gcd_comm a (b + 1), Nat.gcd_rec (b + 1) a, Nat.gcd_comm]
    · rw [e3 j j2 j3]
      simp [j2, j3]
def Ok37 (T : Nat → Fn) : Prop := ∀ (a b : Int), b ≠ 0 → a.natAbs < 2 ^ 9000 → b.natAbs < 2 ^ 8800 → T 37 [.int a, .int b] = .ok (eF (Rat.divInt a b)) []
theorem ok37 (T : Nat → Fn) : Ok37 (S0.up T) := fun a b hb ha hs => by
  rw [u37]
  refine fn_ret ?_
  obtain ⟨ρ', e1, e2, e3⟩ := euclid b.natAbs a.natAbs b.natAbs (((entE [.dt, .dt] [.int a, .int b]).put 3 (.im (.int (b.natAbs : Nat)))).put 2 (.im (.int (a.natAbs : Nat)))) (Nat.le_refl _) (by simp) (by simp)
  have w := while_eq e1
  have r0 : ρ' 0 = .im (.int a) := by rw [e3 0 (by omega) (by omega)]; rfl
  have r1 : ρ' 1 = .im (.int b) := by rw [e3 1 (by omega) (by omega)]; rfl
  have r4 : ρ' 4 = .un := by rw [e3 4 (by omega) (by omega)]; rfl
  have g0 : (Nat.gcd a.natAbs b.natAbs) ≠ 0 := fun z => hb (Int.natAbs_eq_zero.mp (Nat.gcd_eq_zero_iff.mp z).2)
  have gl : Nat.gcd a.natAbs b.natAbs < 2 ^ 8800 := Nat.lt_of_le_of_lt (Nat.le_of_dvd (by omega) (Nat.gcd_dvd_right _ _)) hs
  have d : divOk (Nat.gcd a.natAbs b.natAbs : Nat) = true := div_ok (by omega) (n := 8800) (by omega) (by omega)
  obtain ⟨h1, h2⟩ := Q.frac_law (top := a) hb _ rfl _ rfl
  have w' : whileM (tstM (bin gtD (rdM 3) (M.pure (PyData.int 0)))) (seqM (par2 2 3 false false (vrM 3) (bin modD (un1 intD (rdM 2)) (rdM 3))) nxM) (((entE [.dt, .dt] [.int a, .int b]).put 3 (.im (.int (b.natAbs : Nat)))).put 2 (.im (.int (a.natAbs : Nat)))) = .ok .nx ρ' := w
  by_cases hn : b < 0
  · rw [if_pos hn] at h1 h2
    have m1 : mulOk (-1) a = true := mul_ok (n := 1) (m := 9000) (by decide) ha (by omega)
    have m2 : mulOk (-1) b = true := mul_ok (n := 1) (m := 8800) (by decide) hs (by omega)
    simp at h1 h2
    simp [f37, w', r0, r1, r4, e2, hn, mul_int m1, mul_int m2, fdiv_int d, szOk, h1, h2, eF]
  · rw [if_neg hn] at h1 h2
    have m1 : mulOk 1 a = true := mul_ok (n := 1) (m := 9000) (by decide) ha (by omega)
    have m2 : mulOk 1 b = true := mul_ok (n := 1) (m := 8800) (by decide) hs (by omega)
    simp at h1 h2
    simp [f37, w', r0, r1, r4, e2, hn, mul_int m1, mul_int m2, fdiv_int d, szOk, h1, h2, eF]
def Ok38 (T : Nat → Fn) : Prop := ∀ (p q : Rat), Sm p → Sm q → T 38 [eF p, eF q] = .ok (eF (p + q)) []
theorem ok38 {T : Nat → Fn} (h : Ok37 T) : Ok38 (S0.up T) := fun p q hp hq => by
  rw [u38]
  obtain ⟨m1, m2, m3, m4⟩ := sm_mul hp hq
  obtain ⟨d1, d2⟩ := sm_den hp hq
  refine fn_ret ?_
  rw [Q.add_div]
  have c := h (p.num * q.den + q.num * p.den) (p.den * q.den) d1 (Nat.lt_of_lt_of_le (Q.sz_num hp hq) (Nat.pow_le_pow_right (by omega) (by omega))) d2
  simp [f38, eF, mul_int m2, mul_int m3, mul_int m4, ocV_ok c]
def Ok39 (T : Nat → Fn) : Prop := ∀ (p q : Rat), Sm p → Sm q → T 39 [eF p, eF q] = .ok (eF (p * q)) []
theorem ok39 {T : Nat → Fn} (h : Ok37 T) : Ok39 (S0.up T) := fun p q hp hq => by
  rw [u39]
  obtain ⟨m1, m2, m3, m4⟩ := sm_mul hp hq
  obtain ⟨d1, d2⟩ := sm_den hp hq
  refine fn_ret ?_
  rw [Q.mul_div]
  have c := h (p.num * q.num) (p.den * q.den) d1 (by rw [Int.natAbs_mul]; exact Nat.lt_of_lt_of_le (Q.mul_lt2 hp.1 hq.1) (Nat.pow_le_pow_right (by omega) (by omega))) d2
  simp [f39, eF, mul_int m1, mul_int m4, ocV_ok c]
/-- sums -/
def Bnd (n : Nat) (qs : List Rat) : Prop := (∀ q ∈ qs, Q.Sz n q) ∧ 1 + qs.length * (n + 1) ≤ 4000
theorem Bnd.pre {n : Nat} {ws us : List Rat} {x : Rat} {qs : List Rat} (h : Bnd n qs) (e : qs = ws ++ x :: us) : Sm (Q.sumQ ws) ∧ Sm x := by
  subst e
  have l : ws.length * (n + 1) + (n + 1) ≤ (ws ++ x :: us).length * (n + 1) := by
    rw [List.length_append, List.length_cons, ← Nat.succ_mul]
    exact Nat.mul_le_mul_right _ (by omega)
  exact ⟨(Q.sz_sum fun q hq => h.1 q (by simp [hq])).mono (by have := h.2; omega), (h.1 x (by simp)).mono (by have := h.2; omega)⟩
def Ok40 (T : Nat → Fn) : Prop := ∀ (n : Nat) (qs : List Rat), Bnd n qs → T 40 [.list (qs.map eF)] = .ok (eF (Q.sumQ qs)) []
theorem ok40 {T : Nat → Fn} (h : Ok38 T) : Ok40 (S0.up T) := fun n qs hb => by
  rw [u40]
  refine fn_ret ?_
  obtain ⟨ρ', e, h1, h2⟩ := for_run (src := itsM (wvM 0)) (p := .nm 2) (b := seqM (asM (Pat.nm 1) (callM (T 38) [Md.dt, Md.dt] [Ar.dt (vrM 1), Ar.dt (vrM 2)])) nxM) qs eF
    (fun ws ρ => ρ 1 = .im (eF (Q.sumQ ws)) ∧ notIo (ρ 2) = true) (ρ := (entE [.dt] [.list (qs.map eF)]).put 1 (.im (eF 0))) (ρ0 := (entE [.dt] [.list (qs.map eF)]).put 1 (.im (eF 0))) (by simp) ⟨rfl, rfl⟩ (fun ws x us ρ e ⟨h1, h2⟩ => by
      obtain ⟨s1, s2⟩ := hb.pre e
      have c := h (Q.sumQ ws) x s1 s2
      have e2 : Q.sumQ (ws ++ [x]) = Q.sumQ ws + x := by simp [Q.sumQ]
      refine ⟨ρ.put 2 (.im (eF x)), (ρ.put 2 (.im (eF x))).put 1 (.im (eF (Q.sumQ ws + x))), by simp [h2], by simp [h1, ocV_ok c], ?_⟩
      rw [e2]
      simp)
  have z : PyData.tuple [.int 0, .int 1] = eF 0 := rfl
  simp [f40, z, szOk, e, h1]
end Rf
end
section
set_option Elab.async false
set_option linter.all false
set_option maxRecDepth 100000
set_option maxHeartbeats 2000000
/-! S3: data made of tuples, of lists, compared. -/
namespace Rf
open PySem PySem.Spec L2
mutual
def tD : D → D
  | .list xs => .tuple (tDs xs)
  | .tuple xs => .tuple (tDs xs)
  | .none => .none
  | .bool b => .bool b
  | .int i => .int i
  | .str x => .str x
  | .dict k => .dict k
def tDs : List D → List D
  | [] => []
  | d :: ds => tD d :: tDs ds
end
mutual
def lD : D → D
  | .list xs => .list (lDs xs)
  | .tuple xs => .list (lDs xs)
  | .none => .none
  | .bool b => .bool b
  | .int i => .int i
  | .str x => .str x
  | .dict k => .dict k
def lDs : List D → List D
  | [] => []
  | d :: ds => lD d :: lDs ds
end
theorem tDs_map : ∀ ds : List D, tDs ds = ds.map tD
  | [] => rfl
  | d :: ds => by unfold tDs; rw [tDs_map ds]; rfl
theorem lDs_map : ∀ ds : List D, lDs ds = ds.map lD
  | [] => rfl
  | d :: ds => by unfold lDs; rw [lDs_map ds]; rfl
/-- no deeper than n -/
def good : Nat → D → Bool
  | _, .none => true
  | _, .bool _ => true
  | _, .int _ => true
  | _, .str x => SeqAt.shaped (.str x)
  | n + 1, .list xs => szOk xs.length && xs.all (good n)
  | n + 1, .tuple xs => szOk xs.length && xs.all (good n)
  | _, _ => false
def Ok4 (n : Nat) (T : Nat → Fn) : Prop := ∀ d, good n d = true → T 4 [d] = .ok (tD d) []
theorem seq_list (xs : List D) : (isD "list" (.list xs) || isD "tuple" (.list xs)) = true := by rfl
theorem seq_tuple (xs : List D) : (isD "list" (.tuple xs) || isD "tuple" (.tuple xs)) = true := by rfl
theorem seq_none : (isD "list" .none || isD "tuple" .none) = false := by rfl
theorem seq_bool (b : Bool) : (isD "list" (.bool b) || isD "tuple" (.bool b)) = false := by rfl
theorem seq_int (b : Int) : (isD "list" (.int b) || isD "tuple" (.int b)) = false := by rfl
theorem seq_str (b : Str) : (isD "list" (.str b) || isD "tuple" (.str b)) = false := by rfl
@[simp] theorem tupD_list (ds : List D) : tupD (.list ds) = some (.tuple ds) := rfl
@[simp] theorem tupD_tuple (ds : List D) : tupD (.tuple ds) = some (.tuple ds) := rfl
@[simp] theorem listD_list (ds : List D) : listD (.list ds) = some (.list ds) := rfl
@[simp] theorem listD_tuple (ds : List D) : listD (.tuple ds) = some (.list ds) := rfl
@[simp] theorem noDic_list (ds : List D) : noDic (.list ds) = true := rfl
@[simp] theorem noDic_tuple (ds : List D) : noDic (.tuple ds) = true := rfl
@[simp] theorem noDic_int (i : Int) : noDic (.int i) = true := rfl
@[simp] theorem noDic_bool (i : Bool) : noDic (.bool i) = true := rfl
@[simp] theorem noDic_str (i : Str) : noDic (.str i) = true := rfl
@[simp] theorem noDic_none : noDic .none = true := rfl
/-- one that walks a datum's items, each by a call -/
theorem each_call {T : Nat → Fn} {i : Nat} {f : D → D} {xs : List D} {ρ : Env} {b : D} (hb : itemsU b = some xs) (h0 : ρ 0 = .im b) (h1 : ρ 1 = .un) (hl : szOk xs.length = true) (hc : ∀ x ∈ xs, T i [x] = .ok (f x) []) :
    compM (itsU (rdM 0)) [1] (stepM (Pat.nm 1) yesM (elM (callM (T i) [Md.dt] [Ar.dt (vrM 1)]))) ρ = .ok (.list (xs.map f)) ρ := by
  refine comp_map xs id f (by simp [h0, hb]) (by simp [nonM, h1, Sl.isM]) hl fun x hx => ?_
  refine ⟨_, by simp [ocV_ok (hc x hx)]; rfl, agr_put agr_wipe rfl⟩
theorem ok4_0 (T : Nat → Fn) : Ok4 0 (S0.up T) := fun d hd => by
  rw [u4]
  refine fn_ret ?_
  cases d with
  | none => simp [f4, seq_none, tD]
  | bool b => simp [f4, seq_bool, tD]
  | int b => simp [f4, seq_int, tD]
  | str b => simp [f4, seq_str, tD]
  | _ => cases hd
theorem ok4_s {n : Nat} {T : Nat → Fn} (h : Ok4 n T) : Ok4 (n + 1) (S0.up T) := fun d hd => by
  rw [u4]
  refine fn_ret ?_
  cases d with
  | none => simp [f4, seq_none, tD]
  | bool b => simp [f4, seq_bool, tD]
  | int b => simp [f4, seq_int, tD]
  | str b => simp [f4, seq_str, tD]
  | list xs =>
    obtain ⟨h1, h2⟩ := Bool.and_eq_true_iff.mp (show (szOk xs.length && xs.all (good n)) = true from hd)
    have c := each_call (i := 4) (f := tD) (ρ := entE [.dt] [.list xs]) (xs := xs) rfl rfl rfl h1 fun x hx => h x (List.all_eq_true.mp h2 x hx)
    simp [f4, seq_list, c, tD, tDs_map]
  | tuple xs =>
    obtain ⟨h1, h2⟩ := Bool.and_eq_true_iff.mp (show (szOk xs.length && xs.all (good n)) = true from hd)
    have c := each_call (i := 4) (f := tD) (ρ := entE [.dt] [.tuple xs]) (xs := xs) rfl rfl rfl h1 fun x hx => h x (List.all_eq_true.mp h2 x hx)
    simp [f4, seq_tuple, c, tD, tDs_map]
  | _ => cases hd
def Ok35 (n : Nat) (T : Nat → Fn) : Prop := ∀ d, good n d = true → T 35 [d] = .ok (lD d) []
theorem ok35_0 (T : Nat → Fn) : Ok35 0 (S0.up T) := fun d hd => by
  rw [u35]
  refine fn_ret ?_
  cases d with
  | none => simp [f35, seq_none, lD]
  | bool b => simp [f35, seq_bool, lD]
  | int b => simp [f35, seq_int, lD]
  | str b => simp [f35, seq_str, lD]
  | _ => cases hd
theorem ok35_s {n : Nat} {T : Nat → Fn} (h : Ok35 n T) : Ok35 (n + 1) (S0.up T) := fun d hd => by
  rw [u35]
  refine fn_ret ?_
  cases d with
  | none => simp [f35, seq_none, lD]
  | bool b => simp [f35, seq_bool, lD]
  | int b => simp [f35, seq_int, lD]
  | str b => simp [f35, seq_str, lD]
  | list xs =>
    obtain ⟨h1, h2⟩ := Bool.and_eq_true_iff.mp (show (szOk xs.length && xs.all (good n)) = true from hd)
    have c := each_call (i := 35) (f := lD) (ρ := entE [.dt] [.list xs]) (xs := xs) rfl rfl rfl h1 fun x hx => h x (List.all_eq_true.mp h2 x hx)
    simp [f35, seq_list, c, lD, lDs_map]
  | tuple xs =>
    obtain ⟨h1, h2⟩ := Bool.and_eq_true_iff.mp (show (szOk xs.length && xs.all (good n)) = true from hd)
    have c := each_call (i := 35) (f := lD) (ρ := entE [.dt] [.tuple xs]) (xs := xs) rfl rfl rfl h1 fun x hx => h x (List.all_eq_true.mp h2 x hx)
    simp [f35, seq_tuple, c, lD, lDs_map]
  | _ => cases hd
/-- the same -/
def Ok34 (n : Nat) (T : Nat → Fn) : Prop := ∀ d, good n d = true → T 34 [d, d] = .ok (.bool true) []
theorem bls_true : ∀ n : Nat, blsD (List.replicate n (.bool true)) = some (List.replicate n true)
  | 0 => rfl
  | n + 1 => by
    show (blsD (List.replicate n (.bool true))).map (true :: ·) = _
    rw [bls_true n]
    rfl
theorem all_true {α : Type} (xs : List α) : allD (.list (xs.map fun _ => .bool true)) = some (.bool true) := by
  have e : xs.map (fun _ => PyData.bool true) = List.replicate xs.length (.bool true) := by
    induction xs with
    | nil => rfl
    | cons x xs ih => rw [List.map_cons, ih]; rfl
  rw [e]
  unfold allD
  dsimp only
  rw [bls_true]
  simp
theorem zip_self (xs : List D) : zipD xs xs = xs.map fun x => .tuple [x, x] := by
  unfold zipD
  induction xs with
  | nil => rfl
  | cons x xs ih => simp [ih]
theorem same_comp {T : Nat → Fn} {xs : List D} {ρ : Env} {b : D} (hb : itemsD b = some xs) (h0 : ρ 0 = .im b) (h1 : ρ 1 = .im b) (h2 : ρ 2 = .un) (h3 : ρ 3 = .un) (hl : szOk xs.length = true) (hc : ∀ x ∈ xs, T 34 [x, x] = .ok (.bool true) []) :
    compM (overM zipDs (consM (vrM 0) (consM (vrM 1) nilM))) [2, 3] (stepM (Pat.tp [Pat.nm 2, Pat.nm 3]) yesM (elM (callM (T 34) [Md.dt, Md.dt] [Ar.dt (vrM 2), Ar.dt (vrM 3)]))) ρ = .ok (.list (xs.map fun _ => .bool true)) ρ := by
  refine comp_map xs (fun x => .tuple [x, x]) _ (by simp [h0, h1, zipDs, hb, zip_self]) (by simp [nonM, h2, h3, Sl.isM]) hl fun x hx => ?_
  refine ⟨_, by simp [ocV_ok (hc x hx)]; rfl, agr_put (agr_put agr_wipe rfl) rfl⟩
theorem isList_list (xs : List D) : isD "list" (.list xs) = true := by rfl
theorem isTuple_tuple (xs : List D) : isD "tuple" (.tuple xs) = true := by rfl
theorem isList_tuple (xs : List D) : isD "list" (.tuple xs) = false := by rfl
theorem isTuple_list (xs : List D) : isD "tuple" (.list xs) = false := by rfl
theorem ne_bool (a : Bool) : neD (.bool a) (.bool a) = some (.bool false) := by
  show some (PyData.bool (!(a == a))) = _
  simp
theorem eq_bool (a : Bool) : eqD (.bool a) (.bool a) = some (.bool true) := by
  show some (PyData.bool (a == a)) = _
  simp
theorem ok34_s {n : Nat} {T : Nat → Fn} (h : n = 0 ∨ ∃ m, n = m + 1 ∧ Ok34 m T) : Ok34 n (S0.up T) := fun d hd => by
  rw [u34]
  refine fn_ret ?_
  cases d with
  | none => 
    have e1 : isND .none .none = some (.bool true) := rfl
    have e2 : eqD .none .none = some (.bool true) := rfl
    simp [f34, seq_none, e1, e2, eq_bool]
  | bool b =>
    have e1 : isND (.bool b) .none = some (.bool false) := rfl
    have e2 : (isD "bool" (.bool b) || isD "str" (.bool b)) = true := by rfl
    simp [f34, seq_bool, e1, e2, eq_bool]
  | int b =>
    have e1 : isND (.int b) .none = some (.bool false) := rfl
    have e2 : (isD "bool" (.int b) || isD "str" (.int b)) = false := by rfl
    have e3 : isD "int" (.int b) = true := by rfl
    have e4 : isD "bool" (.int b) = false := by rfl
    have e5 : isD "str" (.int b) = false := by rfl
    simp [f34, seq_int, e1, e2, e3, e4, e5, eq_bool, eq_int]
  | str b =>
    have e1 : isND (.str b) .none = some (.bool false) := rfl
    have e2 : (isD "bool" (.str b) || isD "str" (.str b)) = true := by rfl
    have e3 : eqD (.str b) (.str b) = some (.bool true) := by
      have hd' : SeqAt.shaped (.str b) = true := by cases n <;> exact hd
      unfold eqD
      rw [hd']
      show some (PyData.bool (b == b)) = _
      simp
    simp [f34, seq_str, e1, e2, e3, eq_bool]
  | list xs =>
    rcases h with rfl | ⟨m, rfl, h⟩
    · cases hd
    obtain ⟨h1, h2⟩ := Bool.and_eq_true_iff.mp (show (szOk xs.length && xs.all (good m)) = true from hd)
    have c := same_comp (b := .list xs) (ρ := entE [.dt, .dt] [.list xs, .list xs]) rfl rfl rfl rfl rfl h1 fun x hx => h x (List.all_eq_true.mp h2 x hx)
    simp [f34, seq_list, isList_list, isTuple_list, ne_bool, eq_int, c, all_true]
  | tuple xs =>
    rcases h with rfl | ⟨m, rfl, h⟩
    · cases hd
    obtain ⟨h1, h2⟩ := Bool.and_eq_true_iff.mp (show (szOk xs.length && xs.all (good m)) = true from hd)
    have c := same_comp (b := .tuple xs) (ρ := entE [.dt, .dt] [.tuple xs, .tuple xs]) rfl rfl rfl rfl rfl h1 fun x hx => h x (List.all_eq_true.mp h2 x hx)
    simp [f34, seq_tuple, isList_tuple, isTuple_tuple, ne_bool, eq_int, c, all_true]
  | dict kvs => cases n <;> cases hd
end Rf
end
section
set_option Elab.async false
set_option linter.all false
set_option maxRecDepth 100000
set_option maxHeartbeats 2000000
/-! S4: words in order, at the data's level. -/
namespace Rf
open PySem PySem.Spec L2
def eK (w : Q.W) : D := .tuple [.int (w.length : Nat), eW w]
theorem eqv_ints : ∀ u v : List Int, PyData.eqvAll (u.map .int) (v.map .int) = decide (u = v)
  | [], [] => rfl
  | [], b :: v => by simp [PyData.eqvAll]
  | a :: u, [] => by simp [PyData.eqvAll]
  | a :: u, b :: v => by
    show (PyData.eqv (.int a) (.int b) && PyData.eqvAll (u.map .int) (v.map .int)) = _
    rw [eqv_ints u v]
    show ((a == b) && decide (u = v)) = _
    rw [Bool.eq_iff_iff]
    simp
theorem eqv_W (u v : Q.W) : PyData.eqv (eW u) (eW v) = decide (u = v) := eqv_ints u v
theorem alike_W (u v : Q.W) : PySem.W.alike (eW u) (eW v) = true := PySem.W.alike_ints u v
theorem lt_W (u v : Q.W) : PySem.W.dataLt (eW u) (eW v) = decide (u < v) := by
  unfold eW
  rw [PySem.W.dataLt_tuple]
  exact PySem.W.dataLt_ints u v
theorem lt_K (u v : Q.W) : PySem.W.dataLt (eK u) (eK v) = decide (u.length < v.length ∨ (u.length = v.length ∧ u < v)) := by
  unfold eK
  rw [PySem.W.dataLt_pair rfl (alike_W u v), PySem.W.dataLt_int, eqv_W, lt_W]
  show (if ((u.length : Int) == (v.length : Int)) = true then _ else _) = _
  by_cases h : u.length = v.length
  · rw [if_pos (by simp [h])]
    by_cases e : u = v
    · subst e
      simp [List.lt_irrefl]
    · simp [e, h]
  · rw [if_neg (by simpa using fun z => h (by omega))]
    simp [h]
theorem le_K (u v : Q.W) : PySem.W.dataLe false id (eK u) (eK v) = Q.wle u v := by
  show (!PySem.W.dataLt (eK v) (eK u)) = _
  rw [lt_K]
  unfold Q.wle
  rw [Bool.eq_iff_iff]
  simp only [Bool.not_eq_true', decide_eq_false_iff_not, decide_eq_true_eq]
  rcases Nat.lt_trichotomy u.length v.length with h | h | h
  · constructor
    · intro _; left; exact h
    · rintro _ (z | ⟨z, _⟩) <;> omega
  · constructor
    · intro z
      right
      refine ⟨h, ?_⟩
      exact List.not_lt.mp fun k => z (.inr ⟨h.symm, k⟩)
    · rintro (z | ⟨_, z⟩) (y | ⟨_, y⟩)
      · omega
      · omega
      · omega
      · exact absurd y (List.not_lt.mpr z)
  · constructor
    · intro z
      exact absurd (.inl h) z
    · rintro (z | ⟨z, _⟩) <;> omega
theorem srt_K (ws : List Q.W) : srt (ws.map eK) = (Q.srtW ws).map eK := by
  unfold srt Q.srtW
  exact (PySem.W.sort_maps eK fun a _ b _ => (le_K a b).symm).symm
theorem lay_ints : ∀ u : List Int, PyData.canLayAll0 (u.map .int) = true
  | [] => rfl
  | a :: u => by
    show (true && PyData.canLayAll0 (u.map .int)) = true
    rw [lay_ints u]
    rfl
theorem depth_W (w : Q.W) : (eW w).depth = 1 := by
  show PyData.depthAll (w.map .int) + 1 = 1
  rw [PySem.W.depth_ints]
theorem shaped_W (w : Q.W) : SeqAt.shaped (eW w) = true := by
  unfold SeqAt.shaped
  rw [depth_W]
  show (PyData.canLayAll0 (w.map .int) && true) = true
  rw [lay_ints]
  rfl
theorem shaped_K (w : Q.W) : SeqAt.shaped (eK w) = true := by
  unfold SeqAt.shaped
  have d : (eK w).depth = 2 := by
    show max 0 (max (eW w).depth 0) + 1 = 2
    rw [depth_W]
    rfl
  rw [d]
  show ((true && (PyData.canLayAll0 (w.map .int) && true)) && true) = true
  rw [lay_ints]
  rfl
theorem alike_K (u v : Q.W) : PySem.W.alike (eK u) (eK v) = true := by
  show (true && (PySem.W.alike (eW u) (eW v) && true)) = true
  rw [alike_W]
  rfl
theorem srtOk_K (ws : List Q.W) (h : ws.length ≤ 16777216) : srtOk (ws.map eK) = true := by
  unfold srtOk
  rw [List.length_map, szOk_of h]
  simp only [Bool.true_and, Bool.and_eq_true, List.all_eq_true, List.mem_map, Bool.or_eq_true]
  refine ⟨⟨?_, ?_⟩, ?_⟩
  · rintro _ ⟨a, _, rfl⟩ _ ⟨b, _, rfl⟩
    exact alike_K a b
  · left
    rintro _ ⟨a, _, rfl⟩
    rfl
  · rintro _ ⟨a, _, rfl⟩
    exact shaped_K a
theorem srtD_K (ws : List Q.W) (h : ws.length ≤ 16777216) : srtD (.list (ws.map eK)) = some (.list ((Q.srtW ws).map eK)) := by
  unfold srtD
  dsimp only
  rw [srtOk_K ws h, if_pos rfl, srt_K]
/-! ### dicts keyed by words -/
def kW (w : Q.W) : NestedKey := .tup (w.map .num)
theorem keys_ints : ∀ u : List Int, keysOf (u.map .int) = some (u.map .num)
  | [] => rfl
  | a :: u => by
    show (match keyOf (.int a), keysOf (u.map .int) with
      | some k, some ks => some (k :: ks)
      | _, _ => none) = _
    rw [keys_ints u]
    rfl
theorem keyOf_W (w : Q.W) : keyOf (eW w) = some (kW w) := by
  show (keysOf (w.map .int)).map NestedKey.tup = _
  rw [keys_ints]
  rfl
theorem depth_nums : ∀ u : List Int, NestedKey.depthAll (u.map .num) = 0
  | [] => rfl
  | a :: u => by
    show max 0 (NestedKey.depthAll (u.map .num)) = 0
    rw [depth_nums u]
    rfl
theorem keyT_W (w : Q.W) : keyT (eW w) = some (kW w) := by
  have d : (kW w).depth = 1 := by
    show NestedKey.depthAll (w.map .num) + 1 = 1
    rw [depth_nums]
  have : keyT (eW w) = match keyOf (eW w) with
    | some k => if Nat.ble k.depth 8 then some k else none
    | none => none := rfl
  rw [this, keyOf_W]
  dsimp only
  rw [d]
  rfl
theorem num_inj : ∀ {u v : List Int}, u.map NestedKey.num = v.map NestedKey.num → u = v
  | [], [], _ => rfl
  | [], _ :: _, h => by cases h
  | _ :: _, [], h => by cases h
  | a :: u, b :: v, h => by
    injection h with h1 h2
    injection h1 with h1
    rw [h1, num_inj h2]
theorem kW_eq (u v : Q.W) : decide (kW u = kW v) = (u == v) := by
  rw [Bool.eq_iff_iff]
  simp only [decide_eq_true_eq, beq_iff_eq]
  constructor
  · intro h
    injection h with h
    exact num_inj h
  · intro h
    rw [h]
def dOf (l : Q.Mx) : List (D × D) := l.map fun p => (eW p.1, eF p.2)
theorem isKey_W (w u : Q.W) : isKey (kW w) (eW u) = (u == w) := by
  unfold isKey
  rw [keyOf_W]
  exact kW_eq u w
theorem dGet_of (l : Q.Mx) (w : Q.W) : dGet (dOf l) (kW w) = ((Q.fnd l w).map (·.2)).map eF := by
  unfold dGet dOf Q.fnd
  induction l with
  | nil => rfl
  | cons p l ih =>
    rw [List.map_cons, List.find?_cons, List.find?_cons]
    show Option.map _ (match isKey (kW w) (eW p.1) with | true => _ | false => _) = _
    rw [isKey_W]
    cases h : (p.1 == w) with
    | true => rfl
    | false => exact ih
theorem dPut_of (l : Q.Mx) (w : Q.W) (q : Rat) : dPut (dOf l) (kW w) (eW w) (eF q) = dOf (Q.upd l w q) := by
  unfold dPut Q.upd
  rw [dGet_of, Option.isSome_map]
  split
  · unfold dOf
    rw [List.map_map, List.map_map]
    apply List.map_congr_left
    intro p _
    show (if isKey (kW w) (eW p.1) = true then _ else _) = _
    rw [isKey_W]
    by_cases h : (p.1 == w) = true
    · have h' : p.1 = w := eq_of_beq h
      simp [h']
    · have h' : ¬ p.1 = w := fun z => h (by simp [z])
      simp [h']
  · unfold dOf
    rw [List.map_append]
    rfl
theorem ix_dict (l : Q.Mx) {w : Q.W} (h : w ∈ Q.keys l) : ixU (.dict (dOf l)) (eW w) = some (eF (Q.get l w)) := by
  show (Option.orElse none fun _ => ixK (.dict (dOf l)) (eW w)) = _
  show ixK (.dict (dOf l)) (eW w) = _
  have : ixK (.dict (dOf l)) (eW w) = match keyT (eW w) with
    | some k => dGet (dOf l) k
    | none => none := rfl
  rw [this, keyT_W]
  dsimp only
  rw [dGet_of]
  unfold Q.get
  cases e : Q.fnd l w with
  | none => exact absurd h (Q.fnd_none e)
  | some p => rfl
end Rf
end
section
set_option Elab.async false
set_option linter.all false
set_option maxRecDepth 100000
set_option maxHeartbeats 2000000
/-! S5: MIXES by the program. -/
namespace Rf
open PySem PySem.Spec L2
theorem shaped_F (q : Rat) : SeqAt.shaped (eF q) = true := by rfl
theorem eqv_F0 (q : Rat) : PyData.eqv (eF q) (.tuple [.int 0, .int 1]) = (q == 0) := by
  show ((q.num == 0) && (((q.den : Int) == 1) && true)) = _
  rw [Bool.eq_iff_iff]
  simp only [Bool.and_eq_true, beq_iff_eq, and_true]
  constructor
  · rintro ⟨h, _⟩
    exact Q.num_zero.mp h
  · rintro rfl
    exact ⟨rfl, rfl⟩
theorem ne_F0 (q : Rat) : neD (eF q) (.tuple [.int 0, .int 1]) = some (.bool (q != 0)) := by
  unfold neD
  rw [shaped_F, show SeqAt.shaped (.tuple [.int 0, .int 1]) = true from rfl, eqv_F0]
  rfl
theorem itemsU_dict (l : Q.Mx) : itemsU (.dict (dOf l)) = some ((Q.keys l).map eW) := by
  show some ((dOf l).map (·.1)) = _
  unfold dOf Q.keys
  rw [List.map_map, List.map_map]
  rfl
@[simp] theorem len_W (w : Q.W) : lenD (eW w) = some (.int (w.length : Nat)) := by
  show some (PyData.int ((w.map PyData.int).length : Nat)) = _
  rw [List.length_map]
def ordD (l : Q.Mx) : D := .tuple ((Q.srtW ((Q.keys l).filter fun w => Q.get l w != 0)).map fun w => eP (w, Q.get l w))
def Ok13 (T : Nat → Fn) : Prop := ∀ l : Q.Mx, l.length ≤ 16777216 → T 13 [.dict (dOf l)] = .ok (ordD l) []
theorem ok13 (T : Nat → Fn) : Ok13 (S0.up T) := fun l hl => by
  rw [u13]
  refine fn_ret ?_
  have hk : (Q.keys l).length ≤ 16777216 := by unfold Q.keys; rwa [List.length_map]
  have c1 := comp_filt (ρ := entE [.bo] [.dict (dOf l)]) (src := itsU (rdM 0)) (js := [2]) (step := stepM (Pat.nm 2) (tstM (bin neD (bin ixU (rdM 0) (rdM 2)) (M.pure (PyData.tuple [PyData.int 0, PyData.int 1])))) (elM (tupM (consM (un1 lenD (rdM 2)) (consM (vrM 2) nilM)))))
    (Q.keys l) eW eK (fun w => Q.get l w != 0) (by simp [itemsU_dict]) (by simp [nonM, Sl.isM]) (szOk_of hk) (fun w hw => by
      cases e : (Q.get l w != 0)
      · exact ⟨_, by simp [ix_dict l hw, ne_F0, e]; rfl, agr_put agr_wipe rfl⟩
      · exact ⟨_, by simp [ix_dict l hw, ne_F0, e, szOk]; exact ⟨rfl, rfl⟩, agr_put agr_wipe rfl⟩)
  have hf : ((Q.keys l).filter fun w => Q.get l w != 0).length ≤ 16777216 := Nat.le_trans (List.length_filter_le _ _) hk
  have c2 : ∀ ρ : Env, ρ 0 = .bo (.dict (dOf l)) → ρ 1 = .im (.list ((Q.srtW ((Q.keys l).filter fun w => Q.get l w != 0)).map eK)) → ρ 2 = .un → ρ 3 = .un →
      compM (itsU (rdM 1)) [3, 2] (stepM (Pat.tp [Pat.nm 3, Pat.nm 2]) yesM (elM (tupM (consM (vrM 2) (consM (bin ixU (rdM 0) (rdM 2)) nilM))))) ρ = .ok (.list ((Q.srtW ((Q.keys l).filter fun w => Q.get l w != 0)).map fun w => eP (w, Q.get l w))) ρ := fun ρ h0 h1 h2 h3 => by
    refine comp_map _ eK (fun w => eP (w, Q.get l w)) (by simp [h1]) (by simp [nonM, h2, h3, Sl.isM]) (szOk_of (by rw [(Q.srtW_perm _).length_eq]; exact hf)) fun w hw => ?_
    have hw' : w ∈ Q.keys l := (List.mem_filter.mp ((Q.srtW_perm _).mem_iff.mp hw)).1
    exact ⟨_, by simp [eK, h0, ix_dict l hw', szOk, eP]; rfl, agr_put (agr_put agr_wipe rfl) rfl⟩
  simp [f13, c1, srtD_K _ hf, c2, ordD]
end Rf
end
section
set_option Elab.async false
set_option linter.all false
set_option maxRecDepth 100000
set_option maxHeartbeats 2000000
/-! S6: mix_of, multiplied and what leans on them. -/
namespace Rf
open PySem PySem.Spec L2
theorem set_dict {i : Nat} {mk m : M D} {ρ ρ1 ρ2 : Env} {d k : D} {kvs kvs2 : List (D × D)} {nk : NestedKey} (h1 : m ρ = .ok d ρ1) (h2 : (ρ1 i).val = some (.dict kvs)) (h3 : mk ρ1 = .ok k ρ2) (h4 : (ρ2 i).val = some (.dict kvs2)) (h5 : keyT k = some nk) (h6 : kvs2.length < 16777216) :
    setXM i mk m ρ = .ok .nx (upM ρ2 i (.dict (dPut kvs2 nk k d))) := by
  unfold setXM
  rw [ev_bind, h1, ob_ok, h2]
  dsimp only
  rw [ev_bind, h3, ob_ok]
  unfold ownD
  rw [h4, h5]
  dsimp only
  rw [szOk_of (by omega), if_pos rfl]
theorem get_dict {m : M D} {as : M (List D)} {ρ ρ1 ρ2 : Env} {kvs : List (D × D)} {es : List D} {c : D} (h1 : m ρ = .ok (.dict kvs) ρ1) (h2 : as ρ1 = .ok es ρ2) (h3 : getF kvs es = some c) : getM m as ρ = .ok c ρ2 := by
  unfold getM
  rw [ev_bind, h1, ob_ok]
  dsimp only
  rw [ev_bind, h2, ob_ok, h3]
  rfl
theorem getF_of' (l : Q.Mx) (w : Q.W) : getF (dOf l) [eW w, .tuple [.int 0, .int 1]] = some (eF (Q.get l w)) := by
  show (keyT (eW w)).map (fun nk => (dGet (dOf l) nk).getD (.tuple [.int 0, .int 1])) = _
  rw [keyT_W]
  show some ((dGet (dOf l) (kW w)).getD (.tuple [.int 0, .int 1])) = _
  rw [dGet_of]
  unfold Q.get
  cases Q.fnd l w with
  | none => rfl
  | some p => rfl
def BndM (n : Nat) (ps : Q.Mx) : Prop := Q.SzM n ps ∧ 1 + ps.length * (n + 1) ≤ 4000
theorem BndM.len {n : Nat} {ps : Q.Mx} (h : BndM n ps) : ps.length ≤ 4000 := by
  have a := h.2
  have : ps.length ≤ ps.length * (n + 1) := Nat.le_mul_of_pos_right _ (by omega)
  omega
theorem BndM.pre {n : Nat} {ws us : Q.Mx} {x : Q.W × Rat} {ps : Q.Mx} (h : BndM n ps) (e : ps = ws ++ x :: us) : (∀ w, Sm (Q.coef ws w)) ∧ Sm x.2 ∧ ws.length ≤ 4000 := by
  have hl := h.len
  subst e
  have l : ws.length * (n + 1) + (n + 1) ≤ (ws ++ x :: us).length * (n + 1) := by
    rw [List.length_append, List.length_cons, ← Nat.succ_mul]
    exact Nat.mul_le_mul_right _ (by omega)
  refine ⟨fun w => (Q.sz_coef (n := n) (fun p hp => h.1 p (by simp [hp])) w).mono (by have := h.2; omega), (h.1 x (by simp)).mono (by have := h.2; omega), ?_⟩
  rw [List.length_append] at hl
  omega
theorem BndM.one {n : Nat} {ps : Q.Mx} (h : BndM n ps) (w : Q.W) : Sm (Q.coef ps w) := (Q.sz_coef h.1 w).mono h.2
theorem acc_at (ps : Q.Mx) : Q.Acc ps (Q.addAll [] ps) := by simpa using Q.acc_all ps Q.acc_nil
theorem ord_canon (ps : Q.Mx) : ordD (Q.addAll [] ps) = eM (Q.canon ps) := by
  unfold ordD eM
  rw [← Q.acc_done (acc_at ps), List.map_map]
  rfl
theorem add_snoc (ws : Q.Mx) (x : Q.W × Rat) : Q.upd (Q.addAll [] ws) x.1 (Q.get (Q.addAll [] ws) x.1 + x.2) = Q.addAll [] (ws ++ [x]) := by
  unfold Q.addAll
  rw [List.foldl_append]
  rfl
theorem keys_len (l : Q.Mx) : (Q.keys l).length = l.length := by unfold Q.keys; rw [List.length_map]
theorem dOf_len (l : Q.Mx) : (dOf l).length = l.length := by unfold dOf; rw [List.length_map]
/-- one more added to the own dict at slot i -/
theorem turn_add {T : Nat → Fn} (h8 : Ok8 T) {ws : Q.Mx} {w : Q.W} {q : Rat} (hw : Sm (Q.coef ws w)) (hq : Sm q) (hl : ws.length ≤ 4000) {i : Nat} {ρ : Env} {mk : M D} {m : M D} (h1 : ρ i = .mu (.dict (dOf (Q.addAll [] ws)))) (h2 : mk ρ = .ok (eW w) ρ) (h3 : m ρ = .ok (eF q) ρ) :
    setXM i mk (callM (T 8) [Md.dt, Md.dt] [Ar.dt (getM (rdM i) (consM mk (consM (M.pure (PyData.tuple [PyData.int 0, PyData.int 1])) nilM))), Ar.dt m]) ρ = .ok .nx (ρ.put i (.mu (.dict (dOf (Q.addAll [] (ws ++ [(w, q)])))))) := by
  have g : getM (rdM i) (consM mk (consM (M.pure (PyData.tuple [PyData.int 0, PyData.int 1])) nilM)) ρ = .ok (eF (Q.get (Q.addAll [] ws) w)) ρ :=
    get_dict (ρ1 := ρ) (kvs := dOf (Q.addAll [] ws)) (es := [eW w, .tuple [.int 0, .int 1]]) (by simp [h1]) (by simp [h2]) (getF_of' _ _)
  have a := acc_at ws
  have c := h8 (Q.get (Q.addAll [] ws) w) q (by rw [Q.acc_get a]; exact hw) hq
  rw [set_dict (ρ1 := ρ) (ρ2 := ρ) (d := eF (Q.get (Q.addAll [] ws) w + q)) (k := eW w) (kvs := dOf (Q.addAll [] ws)) (kvs2 := dOf (Q.addAll [] ws)) (nk := kW w) (by simp [g, h3, ocV_ok c]) (by simp [h1]) h2 (by simp [h1]) (keyT_W w) (by rw [dOf_len]; have := Q.acc_len a; omega), dPut_of]
  congr 1
  unfold upM
  rw [h1, withV_mu]
  have := add_snoc ws (w, q)
  dsimp only at this
  rw [this]
@[simp] theorem eP_def (p : Q.W × Rat) (r : List Pat) (ρ : Env) : bindP (.tp r) (eP p) ρ = bindPs r [eW p.1, eF p.2] ρ := rfl
def Ok14 (T : Nat → Fn) : Prop := ∀ (X : D) (n : Nat) (ps : Q.Mx), good 6 X = true → tD X = .tuple (ps.map eP) → BndM n ps → T 14 [X] = .ok (eM (Q.canon ps)) []
theorem ok14 {T : Nat → Fn} (h4 : Ok4 6 T) (h8 : Ok8 T) (h13 : Ok13 T) : Ok14 (S0.up T) := fun X n ps hX hT hb => by
  rw [u14]
  refine fn_ret ?_
  have c4 := h4 X hX
  rw [hT] at c4
  obtain ⟨ρ', e, h1, h2, h3⟩ := for_run (src := itsU (callM (T 4) [Md.dt] [Ar.dt (vrM 0)])) (p := .tp [.nm 2, .nm 3])
    (b := seqM (setXM 1 (vrM 2) (callM (T 8) [Md.dt, Md.dt] [Ar.dt (getM (rdM 1) (consM (vrM 2) (consM (M.pure (PyData.tuple [PyData.int 0, PyData.int 1])) nilM))), Ar.dt (vrM 3)])) nxM) ps eP
    (fun ws ρ => ρ 1 = .mu (.dict (dOf (Q.addAll [] ws))) ∧ notIo (ρ 2) = true ∧ notIo (ρ 3) = true) (ρ := (entE [.dt] [X]).put 1 (.mu (.dict []))) (ρ0 := (entE [.dt] [X]).put 1 (.mu (.dict []))) (by simp [ocV_ok c4]) ⟨rfl, rfl, rfl⟩ (fun ws x us ρ e ⟨h1, h2, h3⟩ => by
      obtain ⟨s1, s2, s3⟩ := hb.pre e
      have t := turn_add h8 (s1 x.1) s2 s3 (i := 1) (ρ := (ρ.put 2 (.im (eW x.1))).put 3 (.im (eF x.2))) (mk := vrM 2) (m := vrM 3) (by simp [h1]) (by simp) (by simp)
      refine ⟨_, _, by simp [h2, h3]; rfl, by simp [t]; rfl, by simp⟩)
  have c13 := h13 (Q.addAll [] ps) (by have := Q.acc_len (acc_at ps); have := hb.len; omega)
  rw [ord_canon] at c13
  have se : sees ρ' 1 = true := sees_of h1 (by simp)
  simp [f14, e, h1, se, ocV_ok c13]
end Rf
end
section
set_option Elab.async false
set_option linter.all false
set_option maxRecDepth 100000
set_option maxHeartbeats 2000000
/-! S7: products, what is made of MIXES. -/
namespace Rf
open PySem PySem.Spec L2
def prodL (one other : Q.Mx) : Q.Mx := one.flatMap fun p => other.map fun r => (p.1 ++ r.1, p.2 * r.2)
/-- WORDS not too long -/
def Ln (m : Q.Mx) : Prop := ∀ p ∈ m, p.1.length ≤ 8000000
/-- small FRACTIONS -/
def SmM (m : Q.Mx) : Prop := ∀ p ∈ m, Sm p.2
theorem add_W {u v : Q.W} (h1 : u.length ≤ 8000000) (h2 : v.length ≤ 8000000) : addU (eW u) (eW v) = some (eW (u ++ v)) := by
  unfold eW
  rw [add_tup (szOk_of (by rw [List.length_map, List.length_map]; omega)), List.map_append]
/-- X stands for the MIX m -/
def Rd4 (X : D) (m : Q.Mx) : Prop := good 6 X = true ∧ tD X = .tuple (m.map eP)
def Ok18 (T : Nat → Fn) : Prop := ∀ (X Y : D) (n : Nat) (one other : Q.Mx), Rd4 X one → Rd4 Y other → Ln one → Ln other → SmM one → SmM other → BndM n (prodL one other) → T 18 [X, Y] = .ok (eM (Q.canon (prodL one other))) []
theorem prodL_snoc (ws : Q.Mx) (x : Q.W × Rat) (other : Q.Mx) : prodL (ws ++ [x]) other = prodL ws other ++ other.map fun r => (x.1 ++ r.1, x.2 * r.2) := by
  unfold prodL
  simp
theorem prodL_cut {one ws us : Q.Mx} {x : Q.W × Rat} {other vs ts : Q.Mx} {y : Q.W × Rat} (e : one = ws ++ x :: us) (e' : other = vs ++ y :: ts) :
    ∃ r, prodL one other = (prodL ws other ++ vs.map fun r => (x.1 ++ r.1, x.2 * r.2)) ++ (x.1 ++ y.1, x.2 * y.2) :: r := by
  refine ⟨(ts.map fun r => (x.1 ++ r.1, x.2 * r.2)) ++ prodL us other, ?_⟩
  have : prodL one other = prodL ws other ++ ((other.map fun r => (x.1 ++ r.1, x.2 * r.2)) ++ prodL us other) := by
    rw [e]
    unfold prodL
    simp
  rw [this]
  have h2 : (other.map fun r => (x.1 ++ r.1, x.2 * r.2)) = (vs.map fun r => (x.1 ++ r.1, x.2 * r.2)) ++ (x.1 ++ y.1, x.2 * y.2) :: (ts.map fun r => (x.1 ++ r.1, x.2 * r.2)) := by rw [e']; simp
  rw [h2]
  simp
theorem sm_prod {p q : Rat} {n : Nat} (h : Q.Sz n (p * q)) (hn : n ≤ 4000) : Sm (p * q) := h.mono hn
theorem ok18 {T : Nat → Fn} (h4 : Ok4 6 T) (h8 : Ok8 T) (h9 : Ok9 T) (h13 : Ok13 T) : Ok18 (S0.up T) := fun X Y n one other ⟨gX, tX⟩ ⟨gY, tY⟩ l1 l2 s1 s2 hb => by
  rw [u18]
  refine fn_ret ?_
  have cX := h4 X gX
  have cY := h4 Y gY
  rw [tX] at cX
  rw [tY] at cY
  obtain ⟨ρ', e, h1, _⟩ := for_run (src := itsU (callM (T 4) [Md.dt] [Ar.dt (vrM 0)])) (p := .tp [.nm 4, .nm 5])
    (b := seqM (forM' (itsM (wvM 3)) (Pat.tp [Pat.nm 6, Pat.nm 7])
          (seqM (asM (Pat.nm 8) (bin addU (rdM 4) (rdM 6)))
            (seqM
              (setXM 2 (vrM 8)
                (callM (T 8) [Md.dt, Md.dt]
                  [Ar.dt
                      (getM (rdM 2) (consM (vrM 8) (consM (M.pure (PyData.tuple [PyData.int 0, PyData.int 1])) nilM))),
                    Ar.dt
                      (callM (T 9) [Md.dt, Md.dt]
                        [Ar.dt (vrM 5), Ar.dt (vrM 7)])]))
              nxM))) nxM) one eP
    (fun ws ρ => ρ 2 = .mu (.dict (dOf (Q.addAll [] (prodL ws other)))) ∧ ρ 3 = .im (.tuple (other.map eP)) ∧ notIo (ρ 4) = true ∧ notIo (ρ 5) = true ∧ notIo (ρ 6) = true ∧ notIo (ρ 7) = true ∧ notIo (ρ 8) = true) (ρ := ((entE [.dt, .dt] [X, Y]).put 3 (.im (.tuple (other.map eP)))).put 2 (.mu (.dict []))) (ρ0 := ((entE [.dt, .dt] [X, Y]).put 3 (.im (.tuple (other.map eP)))).put 2 (.mu (.dict []))) (by simp [ocV_ok cX]) ⟨rfl, rfl, rfl, rfl, rfl, rfl, rfl⟩ (fun ws x us ρ e ⟨h2, h3, h4, h5, h6, h7, h8'⟩ => by
      obtain ⟨ρ', e1, k2, k3, k4, k5, k6, k7, k8⟩ := for_run (src := itsM (wvM 3)) (p := .tp [.nm 6, .nm 7])
        (b := seqM (asM (Pat.nm 8) (bin addU (rdM 4) (rdM 6)))
            (seqM
              (setXM 2 (vrM 8)
                (callM (T 8) [Md.dt, Md.dt]
                  [Ar.dt
                      (getM (rdM 2) (consM (vrM 8) (consM (M.pure (PyData.tuple [PyData.int 0, PyData.int 1])) nilM))),
                    Ar.dt
                      (callM (T 9) [Md.dt, Md.dt]
                        [Ar.dt (vrM 5), Ar.dt (vrM 7)])]))
              nxM)) other eP
        (fun vs ρ => ρ 2 = .mu (.dict (dOf (Q.addAll [] (prodL ws other ++ vs.map fun r => (x.1 ++ r.1, x.2 * r.2))))) ∧ ρ 3 = .im (.tuple (other.map eP)) ∧ ρ 4 = .im (eW x.1) ∧ ρ 5 = .im (eF x.2) ∧ notIo (ρ 6) = true ∧ notIo (ρ 7) = true ∧ notIo (ρ 8) = true)
        (ρ := (ρ.put 4 (.im (eW x.1))).put 5 (.im (eF x.2))) (ρ0 := (ρ.put 4 (.im (eW x.1))).put 5 (.im (eF x.2))) (by simp [h3]) (by simp [h2, h3, h6, h7, h8']) (fun vs y ts ρ e' ⟨j2, j3, j4, j5, j6, j7, j8⟩ => by
          obtain ⟨r, er⟩ := prodL_cut e e'
          obtain ⟨z1, z2, z3⟩ := hb.pre er
          have mx : x ∈ one := by rw [e]; simp
          have my : y ∈ other := by rw [e']; simp
          have c9 := h9 x.2 y.2 (s1 x mx) (s2 y my)
          have t := turn_add h8 (z1 (x.1 ++ y.1)) z2 z3 (i := 2) (ρ := ((ρ.put 6 (.im (eW y.1))).put 7 (.im (eF y.2))).put 8 (.im (eW (x.1 ++ y.1)))) (mk := vrM 8) (m := callM (T 9) [Md.dt, Md.dt] [Ar.dt (vrM 5), Ar.dt (vrM 7)]) (by simp [j2]) (by simp) (by simp [j5, ocV_ok c9])
          refine ⟨_, _, by simp [j6, j7]; rfl, by simp [j4, j8, add_W (l1 x mx) (l2 y my), t]; rfl, ?_⟩
          simp [j3, j4, j5])
      refine ⟨_, _, by simp [h4, h5]; rfl, by simp [e1]; rfl, ?_⟩
      rw [prodL_snoc]
      simp [k2, k3, k4, k5, k6, k7, k8])
  have c13 := h13 (Q.addAll [] (prodL one other)) (by have := Q.acc_len (acc_at (prodL one other)); have := hb.len; omega)
  rw [ord_canon] at c13
  have se : sees ρ' 2 = true := sees_of h1 (by simp)
  simp [f18, ocV_ok cY, e, h1, se, ocV_ok c13]
end Rf
end
section
set_option Elab.async false
set_option linter.all false
set_option maxRecDepth 100000
set_option maxHeartbeats 2000000
/-! S8: what leans on mix_of and multiplied. -/
namespace Rf
open PySem PySem.Spec L2
mutual
theorem tD_lD : ∀ d : D, tD (lD d) = tD d
  | .list xs => by show PyData.tuple (tDs (lDs xs)) = .tuple (tDs xs); rw [tDs_lDs xs]
  | .tuple xs => by show PyData.tuple (tDs (lDs xs)) = .tuple (tDs xs); rw [tDs_lDs xs]
  | .none => rfl
  | .bool _ => rfl
  | .int _ => rfl
  | .str _ => rfl
  | .dict _ => rfl
theorem tDs_lDs : ∀ ds : List D, tDs (lDs ds) = tDs ds
  | [] => rfl
  | d :: ds => by show tD (lD d) :: tDs (lDs ds) = tD d :: tDs ds; rw [tD_lD d, tDs_lDs ds]
end
theorem good_lD : ∀ (n : Nat) (d : D), good n (lD d) = good n d
  | n, .none => by cases n <;> rfl
  | n, .bool _ => by cases n <;> rfl
  | n, .int _ => by cases n <;> rfl
  | n, .str _ => by cases n <;> rfl
  | n, .dict _ => by cases n <;> rfl
  | 0, .list _ => rfl
  | 0, .tuple _ => rfl
  | n + 1, .list xs => by
    show (szOk (lDs xs).length && (lDs xs).all (good n)) = (szOk xs.length && xs.all (good n))
    rw [lDs_map, List.length_map, List.all_map]
    congr 2
    funext d
    exact good_lD n d
  | n + 1, .tuple xs => by
    show (szOk (lDs xs).length && (lDs xs).all (good n)) = (szOk xs.length && xs.all (good n))
    rw [lDs_map, List.length_map, List.all_map]
    congr 2
    funext d
    exact good_lD n d
theorem good_up : ∀ {n m : Nat} {d : D}, good n d = true → n ≤ m → good m d = true
  | n, m, .none, _, _ => by cases m <;> rfl
  | n, m, .bool _, _, _ => by cases m <;> rfl
  | n, m, .int _, _, _ => by cases m <;> rfl
  | n, m, .str _, h, _ => by cases n <;> cases m <;> exact h
  | n, m, .dict _, h, _ => by cases n <;> cases h
  | 0, m, .list _, h, _ => by cases h
  | 0, m, .tuple _, h, _ => by cases h
  | n + 1, 0, .list _, h, k => by omega
  | n + 1, 0, .tuple _, h, k => by omega
  | n + 1, m + 1, .list xs, h, k => by
    obtain ⟨h1, h2⟩ := Bool.and_eq_true_iff.mp (show (szOk xs.length && xs.all (good n)) = true from h)
    exact Bool.and_eq_true_iff.mpr ⟨h1, List.all_eq_true.mpr fun x hx => good_up (List.all_eq_true.mp h2 x hx) (by omega)⟩
  | n + 1, m + 1, .tuple xs, h, k => by
    obtain ⟨h1, h2⟩ := Bool.and_eq_true_iff.mp (show (szOk xs.length && xs.all (good n)) = true from h)
    exact Bool.and_eq_true_iff.mpr ⟨h1, List.all_eq_true.mpr fun x hx => good_up (List.all_eq_true.mp h2 x hx) (by omega)⟩
theorem good_tuple {n : Nat} {xs : List D} (h : xs.length ≤ 16777216) (k : ∀ x ∈ xs, good n x = true) : good (n + 1) (.tuple xs) = true := Bool.and_eq_true_iff.mpr ⟨szOk_of h, List.all_eq_true.mpr k⟩
theorem good_list {n : Nat} {xs : List D} (h : xs.length ≤ 16777216) (k : ∀ x ∈ xs, good n x = true) : good (n + 1) (.list xs) = true := Bool.and_eq_true_iff.mpr ⟨szOk_of h, List.all_eq_true.mpr k⟩
theorem good_W {w : Q.W} (h : w.length ≤ 8000000) : good 1 (eW w) = true := good_tuple (by rw [List.length_map]; omega) fun x hx => by
  obtain ⟨i, _, rfl⟩ := List.mem_map.mp hx
  rfl
theorem good_F (q : Rat) : good 1 (eF q) = true := by rfl
theorem good_P {p : Q.W × Rat} (h : p.1.length ≤ 8000000) : good 2 (eP p) = true := good_tuple (by show 2 ≤ _; omega) fun x hx => by
  simp only [List.mem_cons, List.not_mem_nil, or_false] at hx
  rcases hx with rfl | rfl
  · exact good_W h
  · exact good_F _
theorem good_Ps {m : Q.Mx} (h : Ln m) : ∀ x ∈ m.map eP, good 2 x = true := fun x hx => by
  obtain ⟨p, hp, rfl⟩ := List.mem_map.mp hx
  exact good_P (h p hp)
theorem good_M {m : Q.Mx} (h : Ln m) (hl : m.length ≤ 16777216) : good 3 (eM m) = true := good_tuple (by rw [List.length_map]; exact hl) (good_Ps h)
theorem tD_ints : ∀ w : List Int, tDs (w.map .int) = w.map .int
  | [] => rfl
  | a :: w => by show PyData.int a :: tDs (w.map .int) = _; rw [tD_ints w]; rfl
theorem tD_W (w : Q.W) : tD (eW w) = eW w := by show PyData.tuple (tDs (w.map .int)) = _; rw [tD_ints]; rfl
theorem tD_F (q : Rat) : tD (eF q) = eF q := by rfl
theorem tD_P (p : Q.W × Rat) : tD (eP p) = eP p := by
  show PyData.tuple [tD (eW p.1), tD (eF p.2)] = _
  rw [tD_W, tD_F]
  rfl
theorem tD_Ps (m : Q.Mx) : tDs (m.map eP) = m.map eP := by
  rw [tDs_map, List.map_map]
  exact List.map_congr_left fun p _ => tD_P p
theorem rd_tuple {m : Q.Mx} (h : Ln m) (hl : m.length ≤ 16777216) : Rd4 (.tuple (m.map eP)) m := ⟨good_up (good_M h hl) (by omega), by show PyData.tuple (tDs _) = _; rw [tD_Ps]⟩
theorem rd_list {m : Q.Mx} (h : Ln m) (hl : m.length ≤ 16777216) : Rd4 (.list (m.map eP)) m := ⟨good_up (n := 3) (good_list (by rw [List.length_map]; exact hl) (good_Ps h)) (by omega), by show PyData.tuple (tDs _) = _; rw [tD_Ps]⟩
theorem rd_M {m : Q.Mx} (h : Ln m) (hl : m.length ≤ 16777216) : Rd4 (eM m) m := rd_tuple h hl
theorem rd_lists {X : D} {m : Q.Mx} (h : Rd4 X m) : Rd4 (lD X) m := ⟨by rw [good_lD]; exact h.1, by rw [tD_lD]; exact h.2⟩
theorem Ln.app {a b : Q.Mx} (h : Ln a) (k : Ln b) : Ln (a ++ b) := fun p hp => (List.mem_append.mp hp).elim (h p) (k p)
theorem ln_map {m : Q.Mx} (h : Ln m) {f : Q.W × Rat → Q.W × Rat} (hf : ∀ p, (f p).1.length = p.1.length) : Ln (m.map f) := fun p hp => by
  obtain ⟨q, hq, rfl⟩ := List.mem_map.mp hp
  rw [hf]
  exact h q hq
/-! ### mix_added, mix_times, mix_turned -/
def Ok16 (T : Nat → Fn) : Prop := ∀ (X Y : D) (n : Nat) (one other : Q.Mx), Rd4 X one → Rd4 Y other → Ln one → Ln other → BndM n (one ++ other) → T 16 [X, Y] = .ok (eM (Q.canon (one ++ other))) []
theorem ok16 {T : Nat → Fn} (h4 : Ok4 6 T) (h14 : Ok14 T) : Ok16 (S0.up T) := fun X Y n one other ⟨gX, tX⟩ ⟨gY, tY⟩ l1 l2 hb => by
  rw [u16]
  refine fn_ret ?_
  have cX := h4 X gX
  have cY := h4 Y gY
  rw [tX] at cX
  rw [tY] at cY
  have hl := hb.len
  obtain ⟨g, t⟩ := rd_tuple (l1.app l2) (by omega : (one ++ other).length ≤ 16777216)
  have c := h14 _ n _ g t hb
  rw [List.map_append] at c
  rw [List.length_append] at hl
  have z : szOk (one.length + other.length) = true := szOk_of (by omega)
  simp [f16, ocV_ok cX, ocV_ok cY, z, ocV_ok c]
def scale (m : Q.Mx) (q : Rat) : Q.Mx := m.map fun p => (p.1, p.2 * q)
def Ok17 (T : Nat → Fn) : Prop := ∀ (X Y : D) (n : Nat) (m : Q.Mx) (q : Rat), Rd4 X m → good 6 Y = true → tD Y = eF q → Ln m → SmM m → Sm q → BndM n (scale m q) → T 17 [X, Y] = .ok (eM (Q.canon (scale m q))) []
theorem ok17 {T : Nat → Fn} (h4 : Ok4 6 T) (h9 : Ok9 T) (h14 : Ok14 T) : Ok17 (S0.up T) := fun X Y n m q ⟨gX, tX⟩ gY tY l s sq hb => by
  rw [u17]
  refine fn_ret ?_
  have cX := h4 X gX
  have cY := h4 Y gY
  rw [tX] at cX
  rw [tY] at cY
  have hl := hb.len
  have hl' : m.length ≤ 16777216 := by unfold scale at hl; rw [List.length_map] at hl; omega
  have lsc : Ln (scale m q) := ln_map l (f := fun p => (p.1, p.2 * q)) fun _ => rfl
  obtain ⟨g, t⟩ := rd_list lsc (by omega)
  have c := h14 _ n _ g t hb
  have cc := comp_map (src := itsU (callM (T 4) [Md.dt] [Ar.dt (vrM 0)])) (js := [3, 4]) (step := stepM (Pat.tp [Pat.nm 3, Pat.nm 4]) yesM (elM (tupM (consM (vrM 3) (consM (callM (T 9) [Md.dt, Md.dt] [Ar.dt (vrM 4), Ar.dt (vrM 2)]) nilM)))))
    m eP (fun p => eP (p.1, p.2 * q)) (ρ := (entE [.dt, .dt] [X, Y]).put 2 (.im (eF q))) (by simp [ocV_ok cX]) (by simp [nonM, Sl.isM]) (szOk_of hl') (fun p hp => ⟨_, by simp [ocV_ok (h9 p.2 q (s p hp) sq), szOk]; exact ⟨rfl, rfl⟩, agr_put (agr_put agr_wipe rfl) rfl⟩)
  have e : (scale m q).map eP = m.map fun p => eP (p.1, p.2 * q) := by unfold scale; rw [List.map_map]; rfl
  rw [e] at c
  simp [f17, ocV_ok cY, cc, ocV_ok c]
def turnM (m : Q.Mx) : Q.Mx := m.map fun p => (p.1.reverse, p.2)
@[simp] theorem rv_W (w : Q.W) : rvD (eW w) = some (eW w.reverse) := by
  show some (PyData.tuple (w.map PyData.int).reverse) = _
  unfold eW
  rw [List.map_reverse]
def Ok28 (T : Nat → Fn) : Prop := ∀ (X : D) (n : Nat) (m : Q.Mx), Rd4 X m → Ln m → BndM n (turnM m) → T 28 [X] = .ok (eM (Q.canon (turnM m))) []
theorem ok28 {T : Nat → Fn} (h4 : Ok4 6 T) (h14 : Ok14 T) : Ok28 (S0.up T) := fun X n m ⟨gX, tX⟩ l hb => by
  rw [u28]
  refine fn_ret ?_
  have cX := h4 X gX
  rw [tX] at cX
  have hl := hb.len
  have hl' : m.length ≤ 16777216 := by unfold turnM at hl; rw [List.length_map] at hl; omega
  have lsc : Ln (turnM m) := ln_map l (f := fun p => (p.1.reverse, p.2)) fun p => List.length_reverse
  obtain ⟨g, t⟩ := rd_list lsc (by omega)
  have c := h14 _ n _ g t hb
  have cc := comp_map (src := itsU (callM (T 4) [Md.dt] [Ar.dt (vrM 0)])) (js := [1, 2]) (step := stepM (Pat.tp [Pat.nm 1, Pat.nm 2]) yesM (elM (tupM (consM (un1 rvD (rdM 1)) (consM (vrM 2) nilM)))))
    m eP (fun p => eP (p.1.reverse, p.2)) (ρ := entE [.dt] [X]) (by simp [ocV_ok cX]) (by simp [nonM, Sl.isM]) (szOk_of hl') (fun p hp => ⟨_, by simp [szOk]; exact ⟨rfl, rfl⟩, agr_put (agr_put agr_wipe rfl) rfl⟩)
  have e : (turnM m).map eP = m.map fun p => eP (p.1.reverse, p.2) := by unfold turnM; rw [List.map_map]; rfl
  rw [e] at c
  simp [f28, cc, ocV_ok c]
/-! ### powers -/
def pw (m : Q.Mx) : Nat → Q.Mx
  | 0 => [([], 1)]
  | k + 1 => Q.canon (prodL (pw m k) m)
def PwOk (m : Q.Mx) (k : Nat) : Prop := ∀ j < k, (∃ n, BndM n (prodL (pw m j) m)) ∧ Ln (pw m j) ∧ SmM (pw m j) ∧ (pw m j).length ≤ 16777216
def Ok19 (T : Nat → Fn) : Prop := ∀ (X : D) (m : Q.Mx) (k : Nat), k ≤ 1000 → Rd4 X m → Ln m → SmM m → PwOk m k → T 19 [X, .int (k : Nat)] = .ok (eM (pw m k)) []
theorem rng_nat (k : Nat) (h : k ≤ 1000) : rng1D [.int (k : Nat)] = some ((List.range k).map fun i => .int (i : Nat)) := by
  have h1 : rng62 (k : Int) = true := by
    unfold rng62
    rw [Bool.and_eq_true, decide_eq_true_eq, decide_eq_true_eq]
    omega
  show (if rng62 (k : Int) = true then some (rngL 0 (k : Int).toNat) else none) = _
  rw [if_pos h1]
  simp [rngL]
theorem pw_succ (m : Q.Mx) (k : Nat) : pw m (k + 1) = Q.canon (prodL (pw m k) m) := rfl
theorem range_cut {k : Nat} {ws us : List Nat} {x : Nat} (h : List.range k = ws ++ x :: us) : ws.length < k := by
  have := congrArg List.length h
  simp at this
  omega
end Rf
end
section
set_option Elab.async false
set_option linter.all false
set_option maxRecDepth 100000
set_option maxHeartbeats 2000000
namespace Rf
open PySem PySem.Spec L2
theorem ok19 {T : Nat → Fn} (h18 : Ok18 T) : Ok19 (S0.up T) := fun X m k hk rX l s hp => by
  rw [u19]
  refine fn_ret ?_
  have z : PyData.tuple [.tuple [.tuple [], .tuple [.int 1, .int 1]]] = eM (pw m 0) := by unfold pw eM eP eW eF; rfl
  obtain ⟨ρ', e, h1, _⟩ := for_run (src := overM rng1D (consM (vrM 1) nilM)) (p := .nm 3) (b := seqM (asM (Pat.nm 2) (callM (T 18) [Md.dt, Md.dt] [Ar.dt (vrM 2), Ar.dt (vrM 0)])) nxM) (List.range k) (fun i => PyData.int (i : Nat))
    (fun ws ρ => ρ 2 = .im (eM (pw m ws.length)) ∧ ρ 0 = .im X ∧ notIo (ρ 3) = true) (ρ := (entE [.dt, .dt] [X, .int (k : Nat)]).put 2 (.im (eM (pw m 0)))) (ρ0 := (entE [.dt, .dt] [X, .int (k : Nat)]).put 2 (.im (eM (pw m 0)))) (by simp [rng_nat k hk]) ⟨rfl, rfl, rfl⟩ (fun ws x us ρ e ⟨h2, h0, h3⟩ => by
      obtain ⟨⟨n, hb⟩, a1, a2, a3⟩ := hp ws.length (range_cut e)
      have c := h18 (eM (pw m ws.length)) X n (pw m ws.length) m (rd_M a1 a3) rX a1 l a2 s hb
      refine ⟨_, _, by simp [h3]; rfl, by simp [h2, h0, ocV_ok c]; rfl, ?_⟩
      simp [h0, pw_succ])
  rw [List.length_range] at h1
  simp [f19, z, e, h1]
/-! ### SUMS -/
theorem run20 {T : Nat → Fn} {X Y : D} {α : Type} (zs : List α) (a b f : α → D) (hX : itemsD X = some (zs.map a)) (hY : itemsD Y = some (zs.map b)) (hl : zs.length ≤ 16777216) (h : ∀ z ∈ zs, T 16 [a z, b z] = .ok (f z) []) : S0.up T 20 [X, Y] = .ok (.tuple (zs.map f)) [] := by
  rw [u20]
  refine fn_ret ?_
  have e : zipD (zs.map a) (zs.map b) = zs.map fun z => .tuple [a z, b z] := by
    unfold zipD
    clear hX hY hl h
    induction zs with
    | nil => rfl
    | cons x xs ih => simp [ih]
  have cc := comp_map (src := overM zipDs (consM (vrM 0) (consM (vrM 1) nilM))) (js := [2, 3]) (step := stepM (Pat.tp [Pat.nm 2, Pat.nm 3]) yesM (elM (callM (T 16) [Md.dt, Md.dt] [Ar.dt (vrM 2), Ar.dt (vrM 3)])))
    zs (fun z => .tuple [a z, b z]) f (ρ := entE [.dt, .dt] [X, Y]) (by simp [zipDs, hX, hY, e]) (by simp [nonM, Sl.isM]) (szOk_of hl) (fun z hz => ⟨_, by simp [ocV_ok (h z hz)]; rfl, agr_put (agr_put agr_wipe rfl) rfl⟩)
  simp [f20, cc]
theorem run21 {T : Nat → Fn} {X Y : D} {α : Type} (zs : List α) (a f : α → D) (hX : itemsU X = some (zs.map a)) (hl : zs.length ≤ 16777216) (h : ∀ z ∈ zs, T 17 [a z, Y] = .ok (f z) []) : S0.up T 21 [X, Y] = .ok (.tuple (zs.map f)) [] := by
  rw [u21]
  refine fn_ret ?_
  have cc := comp_map (src := itsU (rdM 0)) (js := [2]) (step := stepM (Pat.nm 2) yesM (elM (callM (T 17) [Md.dt, Md.dt] [Ar.dt (vrM 2), Ar.dt (vrM 1)])))
    zs a f (ρ := entE [.dt, .dt] [X, Y]) (by simp [hX]) (by simp [nonM, Sl.isM]) (szOk_of hl) (fun z hz => ⟨_, by simp [ocV_ok (h z hz)]; rfl, agr_put agr_wipe rfl⟩)
  simp [f21, cc]
theorem run22 {T : Nat → Fn} {X Y : D} {α : Type} (zs : List α) (a f : α → D) (hY : itemsU Y = some (zs.map a)) (hl : zs.length ≤ 16777216) (h : ∀ z ∈ zs, T 18 [X, a z] = .ok (f z) []) : S0.up T 22 [X, Y] = .ok (.tuple (zs.map f)) [] := by
  rw [u22]
  refine fn_ret ?_
  have cc := comp_map (src := itsU (rdM 1)) (js := [2]) (step := stepM (Pat.nm 2) yesM (elM (callM (T 18) [Md.dt, Md.dt] [Ar.dt (vrM 0), Ar.dt (vrM 2)])))
    zs a f (ρ := entE [.dt, .dt] [X, Y]) (by simp [hY]) (by simp [nonM, Sl.isM]) (szOk_of hl) (fun z hz => ⟨_, by simp [ocV_ok (h z hz)]; rfl, agr_put agr_wipe rfl⟩)
  simp [f22, cc]
theorem run23 {T : Nat → Fn} {X Y : D} {α : Type} (zs : List α) (a f : α → D) (hX : itemsU X = some (zs.map a)) (hl : zs.length ≤ 16777216) (h : ∀ z ∈ zs, T 18 [a z, Y] = .ok (f z) []) : S0.up T 23 [X, Y] = .ok (.tuple (zs.map f)) [] := by
  rw [u23]
  refine fn_ret ?_
  have cc := comp_map (src := itsU (rdM 0)) (js := [2]) (step := stepM (Pat.nm 2) yesM (elM (callM (T 18) [Md.dt, Md.dt] [Ar.dt (vrM 2), Ar.dt (vrM 1)])))
    zs a f (ρ := entE [.dt, .dt] [X, Y]) (by simp [hX]) (by simp [nonM, Sl.isM]) (szOk_of hl) (fun z hz => ⟨_, by simp [ocV_ok (h z hz)]; rfl, agr_put agr_wipe rfl⟩)
  simp [f23, cc]
end Rf
end
section
set_option Elab.async false
set_option linter.all false
set_option maxRecDepth 100000
set_option maxHeartbeats 2000000
/-! S9: the law's MIXES. -/
namespace Rf
open PySem PySem.Spec L2
/-! ### sorted(set(..)) of words -/
def kK (w : Q.W) : NestedKey := .tup [.num (w.length : Nat), kW w]
theorem keyOf_K (w : Q.W) : keyOf (eK w) = some (kK w) := by
  show (keysOf [.int (w.length : Nat), eW w]).map NestedKey.tup = _
  have : keysOf [.int (w.length : Nat), eW w] = match keyOf (eW w) with
    | some k => some [.num (w.length : Nat), k]
    | none => none := by
    show (match some (NestedKey.num (w.length : Nat)), (match keyOf (eW w), some ([] : List NestedKey) with
      | some k, some ks => some (k :: ks)
      | _, _ => none) with
      | some k, some ks => some (k :: ks)
      | _, _ => none) = _
    cases keyOf (eW w) <;> rfl
  rw [this, keyOf_W]
  rfl
theorem keysOf_K : ∀ ws : List Q.W, keysOf (ws.map eK) = some (ws.map kK)
  | [] => rfl
  | w :: ws => by
    show (match keyOf (eK w), keysOf (ws.map eK) with
      | some k, some ks => some (k :: ks)
      | _, _ => none) = _
    rw [keyOf_K, keysOf_K ws]
    rfl
theorem kK_inj {u v : Q.W} (h : kK u = kK v) : u = v := by
  unfold kK kW at h
  injection h with h
  injection h with _ h
  injection h with h _
  injection h with h
  exact num_inj h
theorem datas_nums : ∀ u : List Int, NestedKey.datas (u.map .num) = u.map .int
  | [] => rfl
  | a :: u => by
    show PyData.int a :: NestedKey.datas (u.map .num) = _
    rw [datas_nums u]
    rfl
theorem data_K (w : Q.W) : (kK w).data = eK w := by
  show PyData.tuple [.int (w.length : Nat), .tuple (NestedKey.datas (w.map .num))] = _
  rw [datas_nums]
  rfl
theorem kLe_K (u v : Q.W) : kLe (kK u) (kK v) = Q.wle u v := by
  show PySem.W.dataLe false (fun k : NestedKey => k.data) (kK u) (kK v) = _
  rw [← le_K u v]
  show (!PySem.W.dataLt (kK v).data (kK u).data) = (!PySem.W.dataLt (eK v) (eK u))
  rw [data_K, data_K]
theorem uniq_K : ∀ ws : List Q.W, uniq (ws.map kK) = (Q.dd ws).map kK
  | [] => rfl
  | w :: ws => by
    rw [List.map_cons]
    unfold uniq Q.dd
    have e : kK w ∈ ws.map kK ↔ w ∈ ws := by
      constructor
      · intro h
        obtain ⟨u, hu, e⟩ := List.mem_map.mp h
        exact kK_inj e ▸ hu
      · exact List.mem_map_of_mem
    by_cases h : w ∈ ws
    · rw [if_pos (e.mpr h), if_pos h, uniq_K ws]
    · rw [if_neg fun z => h (e.mp z), if_neg h, uniq_K ws]
      rfl
theorem srtK_K (ws : List Q.W) : srtK (ws.map kK) = (Q.srtW (Q.dd ws)).map kK := by
  unfold srtK Q.srtW
  rw [uniq_K]
  exact (PySem.W.sort_maps kK fun a _ b _ => (kLe_K a b).symm).symm
theorem noTx_nums : ∀ u : List Int, noTxs (u.map .num) = true
  | [] => rfl
  | a :: u => by
    show (true && noTxs (u.map .num)) = true
    rw [noTx_nums u]
    rfl
theorem setOk_K (ws : List Q.W) (h : ws.length < 63) : setOk (ws.map eK) (ws.map kK) = true := by
  unfold setOk
  rw [srtOk_K ws (by omega), List.length_map, decide_eq_true h]
  simp only [Bool.and_eq_true, Bool.true_and, Bool.and_true, Bool.or_eq_true]
  refine ⟨?_, .inr ?_⟩
  · unfold antiK
    simp only [List.all_eq_true, List.mem_map]
    rintro _ ⟨a, _, rfl⟩ _ ⟨b, _, rfl⟩
    rw [kLe_K, kLe_K]
    cases e1 : Q.wle a b <;> cases e2 : Q.wle b a <;> simp
    rw [Q.wle_anti e1 e2]
  · simp only [List.all_eq_true, List.mem_map]
    rintro _ ⟨a, _, rfl⟩
    have d : (kK a).depth = 2 := by
      show max 0 (max (NestedKey.depthAll (a.map .num) + 1) 0) + 1 = 2
      rw [depth_nums]
      rfl
    rw [d]
    show (true && (true && (noTxs (a.map .num) && true)) && true) = true
    rw [noTx_nums]
    rfl
theorem srtSet_K (ws : List Q.W) (h : ws.length < 63) : srtSetD (.list (ws.map eK)) = some (.list ((Q.srtW (Q.dd ws)).map eK)) := by
  unfold srtSetD
  dsimp only
  rw [keysOf_K]
  dsimp only
  rw [setOk_K ws h, if_pos rfl, srtK_K, List.map_map]
  congr 2
  exact List.map_congr_left fun w _ => data_K w
/-! ### _law_mix -/
theorem ext_run {i : Nat} {m : M D} {ρ : Env} {xs ys : List D} (h1 : ρ i = .mu (.list xs)) (h2 : m ρ = .ok (.list ys) ρ) (hl : xs.length + ys.length ≤ 16777216) : extM i m ρ = .ok .none (ρ.put i (.mu (.list (xs ++ ys)))) := by
  unfold extM onL
  have o : ownL ρ i = some xs := by
    unfold ownL
    rw [h1]
    rfl
  rw [o]
  dsimp only
  rw [ev_bind, h2, ob_ok, o]
  dsimp only
  rw [szOk_of hl, if_pos rfl]
  congr 1
  unfold upM
  rw [h1]
  rfl
theorem app_run {i : Nat} {m : M D} {ρ ρ1 : Env} {xs ys : List D} {d : D} (h1 : ρ i = .mu (.list xs)) (h2 : m ρ = .ok d ρ1) (h3 : ρ1 i = .mu (.list ys)) (hl : ys.length + 1 ≤ 16777216) : appM i m ρ = .ok .none (ρ1.put i (.mu (.list (ys ++ [d])))) := by
  unfold appM onL
  have o : ownL ρ i = some xs := by
    unfold ownL
    rw [h1]
    rfl
  have o2 : ownL ρ1 i = some ys := by
    unfold ownL
    rw [h3]
    rfl
  rw [o]
  dsimp only
  rw [ev_bind, h2, ob_ok, o2]
  dsimp only
  rw [szOk_of hl, if_pos rfl]
  congr 1
  unfold upM
  rw [h3]
  rfl
theorem eq_WW (u v : Q.W) : eqD (eW u) (eW v) = some (.bool (u == v)) := by
  unfold eqD
  rw [shaped_W, shaped_W, eqv_W]
  have : decide (u = v) = (u == v) := by rw [Bool.eq_iff_iff]; simp
  rw [this]
  rfl
/-- X is a list or tuple of these pairs -/
def Rdp (X : D) (m : Q.Mx) : Prop := X = .list (m.map eP) ∨ X = .tuple (m.map eP)
theorem Rdp.items {X : D} {m : Q.Mx} (h : Rdp X m) : itemsU X = some (m.map eP) ∧ itemsD X = some (m.map eP) := by
  rcases h with rfl | rfl <;> exact ⟨rfl, rfl⟩
def lawStep (ps : Q.Mx) (w : Q.W) : Q.Mx := if Q.coef ps w = 0 then [] else [(w, Q.coef ps w)]
theorem lawMix_eq (ps : Q.Mx) : (Q.srtW (Q.dd (Q.keys ps))).flatMap (lawStep ps) = Q.canon ps := by
  rw [← Q.law_mix_eq]
  unfold Q.lawMix
  generalize Q.srtW (Q.dd (Q.keys ps)) = l
  induction l with
  | nil => rfl
  | cons w l ih =>
    rw [List.flatMap_cons, ih]
    unfold lawStep
    by_cases h : Q.coef ps w = 0
    · rw [if_pos h, List.filterMap_cons_none (by simp [h])]
      rfl
    · rw [if_neg h, List.filterMap_cons_some (b := (w, Q.coef ps w)) (by simp [h])]
      rfl
theorem step_len (ps : Q.Mx) : ∀ ws : List Q.W, (ws.flatMap (lawStep ps)).length ≤ ws.length
  | [] => Nat.le_refl _
  | x :: ws => by
    rw [List.flatMap_cons, List.length_append, List.length_cons]
    have : (lawStep ps x).length ≤ 1 := by unfold lawStep; split <;> simp
    have := step_len ps ws
    omega
def Ok42 (T : Nat → Fn) : Prop := ∀ (X : D) (n : Nat) (ps : Q.Mx), Rdp X ps → BndM n ps → ps.length < 63 → T 42 [X] = .ok (eM (Q.canon ps)) []
theorem ok42 {T : Nat → Fn} (h40 : Ok40 T) : Ok42 (S0.up T) := fun X n ps hX hb hl => by
  rw [u42]
  refine fn_ret ?_
  obtain ⟨i1, i2⟩ := hX.items
  have kl : (Q.keys ps).length < 63 := by rw [keys_len]; exact hl
  have c1 := comp_map (src := itsU (rdM 0)) (js := [3, 4]) (step := stepM (Pat.tp [Pat.nm 3, Pat.nm 4]) yesM (elM (tupM (consM (un1 lenD (rdM 3)) (consM (vrM 3) nilM)))))
    ps eP (fun p => eK p.1) (ρ := (entE [.dt] [X]).put 1 (.mu (.list []))) (by simp [i1]) (by simp [nonM, Sl.isM]) (szOk_of (by omega)) (fun p hp => ⟨_, by simp [szOk]; exact ⟨rfl, rfl⟩, agr_put (agr_put agr_wipe rfl) rfl⟩)
  have e1 : ps.map (fun p => eK p.1) = (Q.keys ps).map eK := by unfold Q.keys; rw [List.map_map]; rfl
  rw [e1] at c1
  have dl := Q.dd_len (Q.keys ps)
  have sl : (Q.srtW (Q.dd (Q.keys ps))).length < 63 := by rw [(Q.srtW_perm _).length_eq]; omega
  obtain ⟨ρ', e, h1, _⟩ := for_run (src := itsU (un1 srtSetD (compM (itsU (rdM 0)) [3, 4] (stepM (Pat.tp [Pat.nm 3, Pat.nm 4]) yesM (elM (tupM (consM (un1 lenD (rdM 3)) (consM (vrM 3) nilM)))))))) (p := .tp [.nm 2, .nm 3])
    (b := seqM (asM (Pat.nm 4) (callM (T 40) [Md.dt] [Ar.dt (compM (itsU (rdM 0)) [5, 6] (stepM (Pat.tp [Pat.nm 5, Pat.nm 6]) (tstM (bin eqD (rdM 5) (rdM 3))) (elM (vrM 6))))])) (seqM (drM (extM 1 (iteM (tstM (bin neD (bin ixU (rdM 4) (M.pure (PyData.int 0))) (M.pure (PyData.int 0)))) (lstM (consM (tupM (consM (vrM 3) (consM (vrM 4) nilM))) nilM)) (lstM nilM)))) nxM))
    (Q.srtW (Q.dd (Q.keys ps))) eK (fun ws ρ => ρ 1 = .mu (.list ((ws.flatMap (lawStep ps)).map eP)) ∧ ρ 0 = .im X ∧ notIo (ρ 2) = true ∧ notIo (ρ 3) = true ∧ notIo (ρ 4) = true ∧ ρ 5 = .un ∧ ρ 6 = .un) (ρ := (entE [.dt] [X]).put 1 (.mu (.list []))) (ρ0 := (entE [.dt] [X]).put 1 (.mu (.list [])))
    (by simp [c1, srtSet_K _ kl]) ⟨rfl, rfl, rfl, rfl, rfl, rfl, rfl⟩ (fun ws w us ρ e ⟨h1, h0, h2, h3, h4, h5, h6⟩ => by
      have fl := step_len ps ws
      have wl : ws.length < 63 := by
        have := congrArg List.length e
        rw [List.length_append, List.length_cons] at this
        omega
      have cf := comp_filt (ρ := (ρ.put 2 (.im (.int (w.length : Nat)))).put 3 (.im (eW w))) (src := itsU (rdM 0)) (js := [5, 6]) (step := stepM (Pat.tp [Pat.nm 5, Pat.nm 6]) (tstM (bin eqD (rdM 5) (rdM 3))) (elM (vrM 6)))
        ps eP (fun p => eF p.2) (fun p => p.1 == w) (by simp [h0, i1]) (by simp [nonM, h5, h6, Sl.isM]) (szOk_of (by omega)) (fun p hp => by
          cases eb : (p.1 == w)
          · exact ⟨_, by simp [eq_WW, eb]; rfl, agr_put (agr_put agr_wipe rfl) rfl⟩
          · exact ⟨_, by simp [eq_WW, eb]; rfl, agr_put (agr_put agr_wipe rfl) rfl⟩)
      have e2 : (ps.filter fun p => p.1 == w).map (fun p => eF p.2) = ((ps.filter fun p => p.1 == w).map (·.2)).map eF := by rw [List.map_map]; rfl
      rw [e2] at cf
      have bq : Bnd n ((ps.filter fun p => p.1 == w).map (·.2)) := by
        refine ⟨fun q hq => ?_, ?_⟩
        · obtain ⟨p, hp, rfl⟩ := List.mem_map.mp hq
          exact hb.1 p (List.mem_filter.mp hp).1
        · rw [List.length_map]
          exact Nat.le_trans (Nat.add_le_add_left (Nat.mul_le_mul_right _ (List.length_filter_le _ _)) _) hb.2
      have c := h40 n _ bq
      have ce : Q.sumQ ((ps.filter fun p => p.1 == w).map (·.2)) = Q.coef ps w := rfl
      rw [ce] at c
      have xr := ext_run (i := 1) (m := iteM (tstM (bin neD (bin ixU (rdM 4) (M.pure (PyData.int 0))) (M.pure (PyData.int 0)))) (lstM (consM (tupM (consM (vrM 3) (consM (vrM 4) nilM))) nilM)) (lstM nilM))
        (ρ := ((ρ.put 2 (.im (.int (w.length : Nat)))).put 3 (.im (eW w))).put 4 (.im (eF (Q.coef ps w)))) (xs := (ws.flatMap (lawStep ps)).map eP) (ys := (lawStep ps w).map eP) (by simp [h1]) (by
          unfold lawStep
          by_cases hz : Q.coef ps w = 0
          · simp [hz, eF, ne_int, szOk]
          · have hn : ¬ (Q.coef ps w).num = 0 := fun z => hz (Q.num_zero.mp z)
            simp [hz, ne_int, hn, szOk, eF, eP]) (by
          rw [List.length_map, List.length_map]
          have : (lawStep ps w).length ≤ 1 := by unfold lawStep; split <;> simp
          omega)
      refine ⟨_, _, by simp [eK, h2, h3]; rfl, by simp [cf, ocV_ok c, h4, xr, -List.map_map]; rfl, ?_⟩
      simp [h0, h5, h6, -List.map_map])
  rw [lawMix_eq] at h1
  simp [f42, szOk, e, h1]
  rfl
end Rf
end
section
set_option Elab.async false
set_option linter.all false
set_option maxRecDepth 100000
set_option maxHeartbeats 2000000
/-! S10: products by the law; sum_of. -/
namespace Rf
open PySem PySem.Spec L2
def Ok43 (T : Nat → Fn) : Prop := ∀ (X Y : D) (n : Nat) (one other : Q.Mx), Rdp X one → Rdp Y other → Ln one → Ln other → SmM one → SmM other → BndM n (prodL one other) → (prodL one other).length < 63 → T 43 [X, Y] = .ok (eM (Q.canon (prodL one other))) []
theorem prodL_len {one ws us : Q.Mx} (other : Q.Mx) (e : one = ws ++ us) : (prodL ws other).length ≤ (prodL one other).length := by
  rw [e]
  unfold prodL
  rw [List.flatMap_append, List.length_append]
  omega
theorem ok43 {T : Nat → Fn} (h39 : Ok39 T) (h42 : Ok42 T) : Ok43 (S0.up T) := fun X Y n one other hX hY l1 l2 s1 s2 hb hl => by
  rw [u43]
  refine fn_ret ?_
  obtain ⟨i1, i2⟩ := hX.items
  obtain ⟨j1, j2⟩ := hY.items
  obtain ⟨ρ', e, h2, _⟩ := for_run (src := itsM (wvM 0)) (p := .tp [.nm 3, .nm 4])
    (b := seqM (drM (extM 2 (compM (itsU (rdM 1)) [5, 6] (stepM (Pat.tp [Pat.nm 5, Pat.nm 6]) yesM (elM (tupM (consM (bin addU (rdM 3) (rdM 5)) (consM (callM (T 39) [Md.dt, Md.dt] [Ar.dt (vrM 4), Ar.dt (vrM 6)]) nilM)))))))) nxM) one eP
    (fun ws ρ => ρ 2 = .mu (.list ((prodL ws other).map eP)) ∧ ρ 1 = .im Y ∧ notIo (ρ 3) = true ∧ notIo (ρ 4) = true ∧ ρ 5 = .un ∧ ρ 6 = .un) (ρ := (entE [.dt, .dt] [X, Y]).put 2 (.mu (.list []))) (ρ0 := (entE [.dt, .dt] [X, Y]).put 2 (.mu (.list [])))
    (by simp [i2]) ⟨rfl, rfl, rfl, rfl, rfl, rfl⟩ (fun ws x us ρ e ⟨h2, h1, h3, h4, h5, h6⟩ => by
      have mx : x ∈ one := by rw [e]; simp
      have pl := prodL_len (us := us) other (show one = (ws ++ [x]) ++ us by rw [e]; simp)
      rw [prodL_snoc, List.length_append, List.length_map] at pl
      have cc := comp_map (src := itsU (rdM 1)) (js := [5, 6]) (step := stepM (Pat.tp [Pat.nm 5, Pat.nm 6]) yesM (elM (tupM (consM (bin addU (rdM 3) (rdM 5)) (consM (callM (T 39) [Md.dt, Md.dt] [Ar.dt (vrM 4), Ar.dt (vrM 6)]) nilM)))))
        other eP (fun r => eP (x.1 ++ r.1, x.2 * r.2)) (ρ := (ρ.put 3 (.im (eW x.1))).put 4 (.im (eF x.2))) (by simp [h1, j1]) (by simp [nonM, h5, h6, Sl.isM]) (szOk_of (by omega)) (fun r hr => ⟨_, by simp [add_W (l1 x mx) (l2 r hr), ocV_ok (h39 x.2 r.2 (s1 x mx) (s2 r hr)), szOk]; exact ⟨rfl, rfl⟩, agr_put (agr_put agr_wipe rfl) rfl⟩)
      have xr := ext_run (i := 2) (m := compM (itsU (rdM 1)) [5, 6] (stepM (Pat.tp [Pat.nm 5, Pat.nm 6]) yesM (elM (tupM (consM (bin addU (rdM 3) (rdM 5)) (consM (callM (T 39) [Md.dt, Md.dt] [Ar.dt (vrM 4), Ar.dt (vrM 6)]) nilM))))))
        (ρ := (ρ.put 3 (.im (eW x.1))).put 4 (.im (eF x.2))) (xs := (prodL ws other).map eP) (ys := other.map fun r => eP (x.1 ++ r.1, x.2 * r.2)) (by simp [h2]) cc (by rw [List.length_map, List.length_map]; omega)
      refine ⟨_, _, by simp [h3, h4]; rfl, by simp [xr]; rfl, ?_⟩
      rw [prodL_snoc, List.map_append, List.map_map]
      simp [h1, h5, h6])
  have c := h42 (.list ((prodL one other).map eP)) n _ (.inl rfl) hb hl
  simp [f43, szOk, e, h2, ocV_ok c]
/-! ### sum_of -/
abbrev Tm := Q.W × Int × Rat
def eT (t : Tm) : D := .tuple [eW t.1, .int t.2.1, eF t.2.2]
def sel (ts : List Tm) (i : Int) : Q.Mx := (ts.filter fun t => t.2.1 == i).map fun t => (t.1, t.2.2)
@[simp] theorem ev_ch {ρ : Env} (f g : D → D → Option D) (a b c : M D) : chM f g a b c ρ = (a ρ).bind fun x ρ1 => (b ρ1).bind fun y ρ2 => (M.lift (f x y) ρ2).bind fun k ρ3 => (M.lift (truB k) ρ3).bind fun k ρ4 => if k = true then (c ρ4).bind fun z ρ5 => M.lift (g y z) ρ5 else .ok (.bool false) ρ4 := by
  unfold chM
  rw [ev_bind]
  congr 1
  funext x ρ1
  rw [ev_bind]
  congr 1
  funext y ρ2
  rw [ev_bind]
  congr 1
  funext k ρ3
  rw [ev_bind]
  congr 1
  funext k ρ4
  cases k <;> rfl
@[simp] theorem ev_raise {ρ : Env} (n : Nat) (m : M D) : raiseM n m ρ = (m ρ).bind fun d ρ1 => match d with
  | .int i => .ex n [.int i] ρ1
  | _ => .bad := by
  unfold raiseM
  rw [ev_bind]
  all_goals congr 1
theorem fo_app {α : Type} {p : Pat} {b : MS} {enc : α → D} {ds : List D} (P : List α → Env → Prop) : ∀ (zs ys : List α) {ρ : Env}, P ys ρ →
    (∀ ws x us ρ, ys ++ zs = ws ++ x :: us → P ws ρ → ∃ ρ1 ρ', bindP p (enc x) ρ = some ρ1 ∧ b ρ1 = .ok .nx ρ' ∧ P (ws ++ [x]) ρ') → ∃ ρ', foL p b (zs.map enc ++ ds) ρ = foL p b ds ρ' ∧ P (ys ++ zs) ρ'
  | [], ys, ρ, h, _ => ⟨ρ, rfl, by simpa using h⟩
  | z :: zs, ys, ρ, h, hs => by
    obtain ⟨ρ1, ρ2, e1, e2, h2⟩ := hs ys z zs ρ rfl h
    obtain ⟨ρ', e3, h3⟩ := fo_app (ds := ds) P zs (ys ++ [z]) h2 (by simpa using hs)
    refine ⟨ρ', ?_, by simpa using h3⟩
    show (match bindP p (enc z) ρ with
      | none => Out.bad
      | some ρ1 => (b ρ1).bind fun f ρ2 => match f with
        | .nx => foL p b (zs.map enc ++ ds) ρ2
        | .ct => foL p b (zs.map enc ++ ds) ρ2
        | .bk => .ok .nx ρ2
        | .rt d => .ok (.rt d) ρ2) = _
    rw [e1]
    dsimp only
    rw [e2]
    exact e3
def Good (ts : List Tm) (size : Nat) : Prop := ∀ t ∈ ts, 0 ≤ t.2.1 ∧ t.2.1 < size
abbrev sBd : MS := seqM (ifM (notT (tstM (chM leD ltD (M.pure (PyData.int 0)) (rdM 4) (rdM 1)))) (seqM (raiseM 0 (rdM 4)) nxM) nxM) nxM
theorem sum_step {size : Nat} {t : Tm} {ρ : Env} {X : D} (hg : 0 ≤ t.2.1 ∧ t.2.1 < size) (h : ρ 1 = .im (.int (size : Nat)) ∧ ρ 2 = .im X ∧ notIo (ρ 3) = true ∧ notIo (ρ 4) = true ∧ ρ 5 = .un ∧ ρ 6 = .un ∧ ρ 7 = .un ∧ ρ 8 = .un) :
    ∃ ρ1 ρ', bindP (.tp [.nm 3, .nm 4, .nm 3]) (eT t) ρ = some ρ1 ∧ sBd ρ1 = .ok .nx ρ' ∧ (ρ' 1 = .im (.int (size : Nat)) ∧ ρ' 2 = .im X ∧ notIo (ρ' 3) = true ∧ notIo (ρ' 4) = true ∧ ρ' 5 = .un ∧ ρ' 6 = .un ∧ ρ' 7 = .un ∧ ρ' 8 = .un) := by
  obtain ⟨h1, h2, h3, h4, h5, h6, h7, h8⟩ := h
  refine ⟨_, _, by simp [eT, h3, h4]; rfl, by simp [sBd, h1, hg.1, hg.2]; rfl, ?_⟩
  simp [h1, h2, h5, h6, h7, h8]
theorem sum_bad {size : Nat} {t : Tm} {ρ : Env} {ds : List D} (hg : ¬ (0 ≤ t.2.1 ∧ t.2.1 < size)) (h1 : ρ 1 = .im (.int (size : Nat))) (h3 : notIo (ρ 3) = true) (h4 : notIo (ρ 4) = true) :
    ∃ ρ', foL (.tp [.nm 3, .nm 4, .nm 3]) sBd (eT t :: ds) ρ = .ex 0 [.int t.2.1] ρ' := by
  have e : bindP (.tp [.nm 3, .nm 4, .nm 3]) (eT t) ρ = some (((ρ.put 3 (.im (eW t.1))).put 4 (.im (.int t.2.1))).put 3 (.im (eF t.2.2))) := by simp [eT, h3, h4]
  refine ⟨((ρ.put 3 (.im (eW t.1))).put 4 (.im (.int t.2.1))).put 3 (.im (eF t.2.2)), ?_⟩
  show (match bindP (.tp [.nm 3, .nm 4, .nm 3]) (eT t) ρ with
      | none => Out.bad
      | some ρ1 => (sBd ρ1).bind fun f ρ2 => match f with
        | .nx => foL (.tp [.nm 3, .nm 4, .nm 3]) sBd ds ρ2
        | .ct => foL (.tp [.nm 3, .nm 4, .nm 3]) sBd ds ρ2
        | .bk => .ok .nx ρ2
        | .rt d => .ok (.rt d) ρ2) = _
  rw [e]
  by_cases h0 : 0 ≤ t.2.1
  · have hs : ¬ t.2.1 < size := fun z => hg ⟨h0, z⟩
    simp [sBd, h1, h0, hs]
  · simp [sBd, h1, h0]
/-- what is told of sum_of -/
structure SumOk (ts : List Tm) (n : Nat) : Prop where
  ln : ∀ t ∈ ts, t.1.length ≤ 8000000
  bd : ∀ i, BndM n (sel ts i)
  len : ts.length ≤ 4000
theorem sel_ln {ts : List Tm} {n : Nat} (h : SumOk ts n) (i : Int) : Ln (sel ts i) := fun p hp => by
  obtain ⟨t, ht, rfl⟩ := List.mem_map.mp hp
  exact h.ln t (List.mem_filter.mp ht).1
def Ok15 (T : Nat → Fn) : Prop := ∀ (X : D) (n size : Nat) (ts : List Tm), good 6 X = true → tD X = .tuple (ts.map eT) → size ≤ 1000 → SumOk ts n → Good ts size →
  T 15 [X, .int (size : Nat)] = .ok (.tuple ((List.range size).map fun (i : Nat) => eM (Q.canon (sel ts (i : Int))))) []
theorem ok15 {T : Nat → Fn} (h4 : Ok4 6 T) (h14 : Ok14 T) : Ok15 (S0.up T) := fun X n size ts gX tX hz so hg => by
  rw [u15]
  refine fn_ret ?_
  have cX := h4 X gX
  rw [tX] at cX
  obtain ⟨ρ', e, h1, h2, h3, h4', h5, h6, h7, h8⟩ := for_run (src := itsM (wvM 2)) (p := .tp [.nm 3, .nm 4, .nm 3]) (b := sBd) ts eT
    (fun ws ρ => ρ 1 = .im (.int (size : Nat)) ∧ ρ 2 = .im (.tuple (ts.map eT)) ∧ notIo (ρ 3) = true ∧ notIo (ρ 4) = true ∧ ρ 5 = .un ∧ ρ 6 = .un ∧ ρ 7 = .un ∧ ρ 8 = .un) (ρ := (entE [.dt, .dt] [X, .int (size : Nat)]).put 2 (.im (.tuple (ts.map eT)))) (ρ0 := (entE [.dt, .dt] [X, .int (size : Nat)]).put 2 (.im (.tuple (ts.map eT))))
    (by simp) ⟨rfl, rfl, rfl, rfl, rfl, rfl, rfl, rfl⟩ (fun ws x us ρ e h => sum_step (hg x (by rw [e]; simp)) h)
  have cc := comp_map (ρ := ρ') (src := overM rng1D (consM (vrM 1) nilM)) (js := [8]) (step := stepM (Pat.nm 8) yesM (elM (callM (T 14) [Md.dt] [Ar.dt (compM (itsU (rdM 2)) [5, 6, 7] (stepM (Pat.tp [Pat.nm 5, Pat.nm 6, Pat.nm 7]) (tstM (bin eqD (rdM 6) (rdM 8))) (elM (tupM (consM (vrM 5) (consM (vrM 7) nilM))))))])))
    (List.range size) (fun i => PyData.int (i : Nat)) (fun (i : Nat) => eM (Q.canon (sel ts (i : Int)))) (by simp [h1, rng_nat size hz]) (by simp [nonM, h8, Sl.isM]) (szOk_of (by simp; omega)) (fun i hi => by
      have cf := comp_filt (ρ := (wipeE ρ' [8]).put 8 (.im (.int (i : Nat)))) (src := itsU (rdM 2)) (js := [5, 6, 7]) (step := stepM (Pat.tp [Pat.nm 5, Pat.nm 6, Pat.nm 7]) (tstM (bin eqD (rdM 6) (rdM 8))) (elM (tupM (consM (vrM 5) (consM (vrM 7) nilM)))))
        ts eT (fun t => eP (t.1, t.2.2)) (fun t => t.2.1 == (i : Int)) (by simp [h2]) (by simp [nonM, h5, h6, h7, Sl.isM]) (szOk_of (by have := so.len; omega)) (fun t ht => by
          cases eb : (t.2.1 == (i : Int))
          · have eb' : ¬ t.2.1 = (i : Int) := by simpa using eb
            exact ⟨_, by simp [eT, eq_int, eb']; rfl, agr_put (agr_put (agr_put agr_wipe rfl) rfl) rfl⟩
          · have eb' : t.2.1 = (i : Int) := by simpa using eb
            exact ⟨_, by simp [eT, eq_int, eb', szOk]; exact ⟨rfl, rfl⟩, agr_put (agr_put (agr_put agr_wipe rfl) rfl) rfl⟩)
      have es : (ts.filter fun t => t.2.1 == (i : Int)).map (fun t => eP (t.1, t.2.2)) = (sel ts (i : Int)).map eP := by
        unfold sel
        rw [List.map_map]
        rfl
      rw [es] at cf
      obtain ⟨g, t⟩ := rd_list (sel_ln so (i : Int)) (by have := (so.bd (i : Int)).len; omega)
      have c := h14 _ n _ g t (so.bd (i : Int))
      exact ⟨_, by simp [cf, ocV_ok c]; rfl, agr_put agr_wipe rfl⟩)
  simp [f15, ocV_ok cX, e, cc]
/-- the first register that is none -/
def Ok15x (T : Nat → Fn) : Prop := ∀ (X : D) (size : Nat) (ts us : List Tm) (b : Tm), good 6 X = true → tD X = .tuple ((ts ++ b :: us).map eT) → Good ts size → ¬ (0 ≤ b.2.1 ∧ b.2.1 < size) →
  T 15 [X, .int (size : Nat)] = .ex 0 [.int b.2.1] []
theorem ok15x {T : Nat → Fn} (h4 : Ok4 6 T) : Ok15x (S0.up T) := fun X size ts us b gX tX hg hb => by
  rw [u15]
  have cX := h4 X gX
  rw [tX] at cX
  obtain ⟨ρ', e, h⟩ := fo_app (enc := eT) (p := .tp [.nm 3, .nm 4, .nm 3]) (b := sBd) (ds := eT b :: us.map eT) (fun ws ρ => ρ 1 = .im (.int (size : Nat)) ∧ ρ 2 = .im (.tuple ((ts ++ b :: us).map eT)) ∧ notIo (ρ 3) = true ∧ notIo (ρ 4) = true ∧ ρ 5 = .un ∧ ρ 6 = .un ∧ ρ 7 = .un ∧ ρ 8 = .un) ts [] (ρ := (entE [.dt, .dt] [X, .int (size : Nat)]).put 2 (.im (.tuple ((ts ++ b :: us).map eT))))
    ⟨rfl, rfl, rfl, rfl, rfl, rfl, rfl, rfl⟩ (fun ws x us' ρ e h => sum_step (hg x (by rw [List.nil_append] at e; rw [e]; simp)) h)
  obtain ⟨ρ2, e2⟩ := sum_bad (ds := us.map eT) hb h.1 h.2.2.1 h.2.2.2.1
  rw [e2] at e
  have ef : forM' (itsM (wvM 2)) (.tp [.nm 3, .nm 4, .nm 3]) sBd ((entE [.dt, .dt] [X, .int (size : Nat)]).put 2 (.im (.tuple ((ts ++ b :: us).map eT)))) = .ex 0 [.int b.2.1] ρ2 := by
    unfold forM'
    rw [ev_bind]
    simp [-List.map_append]
    have em : (ts ++ b :: us).map eT = ts.map eT ++ eT b :: us.map eT := by rw [List.map_append]; rfl
    rw [← em] at e
    exact e
  have r : f15 T (entE [.dt, .dt] [X, .int (size : Nat)]) = .ex 0 [.int b.2.1] ρ2 := by
    simp [f15, ocV_ok cX, ef, -List.map_append]
  rw [fn_ex r]
  rfl
theorem try_ex {n : Nat} {nm : Str} {b : MS} {ρ ρ' : Env} {k : Int} (h : b ρ = .ex n [.int k] ρ') : tryM n nm b ρ = .ok (.rt (.list [.str nm, .int k, .bool true])) ρ' := by
  unfold tryM
  rw [h]
  simp
theorem try_ok {n : Nat} {nm : Str} {b : MS} {ρ ρ' : Env} {f : Fl} (h : b ρ = .ok f ρ') : tryM n nm b ρ = .ok f ρ' := by
  unfold tryM
  rw [h]
theorem run41 {T : Nat → Fn} {X Y d : D} (h : T 15 [X, Y] = .ok d []) : S0.up T 41 [X, Y] = .ok (.list [.str (Str.ofString "told"), d]) [] := by
  rw [u41]
  refine fn_ret ?_
  have t := try_ok (n := 0) (nm := Str.ofString "NoRegister") (b := seqM (rtM (lstM (consM (M.pure (PyData.str (Str.ofString "told"))) (consM (callM (T 15) [Md.dt, Md.dt] [Ar.dt (vrM 0), Ar.dt (vrM 1)]) nilM)))) nxM) (ρ := entE [.dt, .dt] [X, Y]) (f := .rt (.list [.str (Str.ofString "told"), d])) (ρ' := entE [.dt, .dt] [X, Y]) (by simp [ocV_ok h, szOk])
  simp [f41, t]
theorem run41x {T : Nat → Fn} {X Y : D} {k : Int} (h : T 15 [X, Y] = .ex 0 [.int k] []) : S0.up T 41 [X, Y] = .ok (.list [.str (Str.ofString "NoRegister"), .int k, .bool true]) [] := by
  rw [u41]
  refine fn_ret ?_
  have t := try_ex (n := 0) (nm := Str.ofString "NoRegister") (b := seqM (rtM (lstM (consM (M.pure (PyData.str (Str.ofString "told"))) (consM (callM (T 15) [Md.dt, Md.dt] [Ar.dt (vrM 0), Ar.dt (vrM 1)]) nilM)))) nxM) (ρ := entE [.dt, .dt] [X, Y]) (k := k) (ρ' := entE [.dt, .dt] [X, Y]) (by simp [ocV_ex h])
  simp [f41, t]
end Rf
end
section
set_option Elab.async false
set_option linter.all false
set_option maxRecDepth 100000
set_option maxHeartbeats 2000000
/-! S11: terms, heads, lengths, sets of METHODS, fronts. -/
namespace Rf
open PySem PySem.Spec L2
abbrev Ln_ := List Q.Mx
def eL (ls : List Q.Mx) : D := .tuple (ls.map eM)
def eR (t : Tm) : D := .tuple [.int (t.1.length : Nat), eW t.1, .int t.2.1, eF t.2.2]
def idx {α : Type} : Nat → List α → List (Nat × α)
  | _, [] => []
  | k, x :: xs => (k, x) :: idx (k + 1) xs
theorem idx_len {α : Type} : ∀ (k : Nat) (xs : List α), (idx k xs).length = xs.length
  | _, [] => rfl
  | k, x :: xs => by unfold idx; rw [List.length_cons, List.length_cons, idx_len]
theorem idx_get {α : Type} : ∀ (k : Nat) (xs : List α) (i : Nat), (idx k xs)[i]? = xs[i]?.map fun x => (k + i, x)
  | _, [], i => by simp [idx]
  | k, x :: xs, 0 => by simp [idx]
  | k, x :: xs, i + 1 => by
    unfold idx
    rw [List.getElem?_cons_succ, List.getElem?_cons_succ, idx_get (k + 1) xs i]
    congr 1
    funext x
    rw [show k + 1 + i = k + (i + 1) by omega]
theorem enum_idx {α : Type} (f : α → D) (xs : List α) : enumD (xs.map f) = (idx 0 xs).map fun x => .tuple [.int (x.1 : Nat), f x.2] := by
  apply List.ext_getElem?
  intro i
  unfold enumD
  rw [List.getElem?_zipWith, List.getElem?_map, List.getElem?_map, idx_get, List.length_map]
  cases h : xs[i]? with
  | none => simp
  | some x =>
    have : i < xs.length := (List.getElem?_eq_some_iff.mp h).1
    simp [this]
def rowsOf (ls : List Q.Mx) : List Tm := (idx 0 ls).flatMap fun x => x.2.map fun p => (p.1, ((x.1 : Nat) : Int), p.2)
def sortR (rs : List Tm) : List Tm := rs.mergeSort fun a b => PySem.W.dataLe false id (eR a) (eR b)
theorem srt_R (rs : List Tm) : srt (rs.map eR) = (sortR rs).map eR := by
  unfold srt sortR
  exact (PySem.W.sort_maps eR fun a _ b _ => rfl).symm
theorem sortR_perm (rs : List Tm) : (sortR rs).Perm rs := List.mergeSort_perm _ _
theorem alike_R (a b : Tm) : PySem.W.alike (eR a) (eR b) = true := by
  show (true && (PySem.W.alike (eW a.1) (eW b.1) && (true && ((true && (true && true)) && true)))) = true
  rw [alike_W]
  rfl
theorem shaped_R (t : Tm) : SeqAt.shaped (eR t) = true := by
  unfold SeqAt.shaped
  have d : (eR t).depth = 2 := by
    show max 0 (max (eW t.1).depth (max 0 (max (eF t.2.2).depth 0))) + 1 = 2
    rw [depth_W]
    rfl
  rw [d]
  show ((true && (PyData.canLayAll0 (t.1.map .int) && true)) && true) = true
  rw [lay_ints]
  rfl
theorem srtD_R (rs : List Tm) (h : rs.length ≤ 16777216) : srtD (.list (rs.map eR)) = some (.list ((sortR rs).map eR)) := by
  unfold srtD
  dsimp only
  have : srtOk (rs.map eR) = true := by
    unfold srtOk
    rw [List.length_map, szOk_of h]
    simp only [Bool.true_and, Bool.and_eq_true, List.all_eq_true, List.mem_map, Bool.or_eq_true]
    refine ⟨⟨?_, ?_⟩, ?_⟩
    · rintro _ ⟨a, _, rfl⟩ _ ⟨b, _, rfl⟩
      exact alike_R a b
    · left
      rintro _ ⟨a, _, rfl⟩
      rfl
    · rintro _ ⟨a, _, rfl⟩
      exact shaped_R a
  rw [this, if_pos rfl, srt_R]
@[simp] theorem rvD_list (ds : List D) : rvD (.list ds) = some (.list ds.reverse) := rfl
@[simp] theorem rvD_tuple (ds : List D) : rvD (.tuple ds) = some (.tuple ds.reverse) := rfl
@[simp] theorem isM_im (d : D) : (Sl.im d).isM = false := (rfl)
@[simp] theorem isM_un : Sl.un.isM = false := (rfl)
theorem notIo_of {s : Sl} (h : s.isM = false) : notIo s = true := by
  cases s with
  | io d => cases h
  | _ => rfl
def rowsAt (ws : List (Nat × Q.Mx)) : List Tm := ws.flatMap fun x => x.2.map fun p => (p.1, ((x.1 : Nat) : Int), p.2)
abbrev rowB : MS := seqM (drM (extM 1 (compM (itsU (rdM 3)) [4, 5] (stepM (Pat.tp [Pat.nm 4, Pat.nm 5]) yesM (elM (tupM (consM (un1 lenD (rdM 4)) (consM (vrM 4) (consM (vrM 2) (consM (vrM 5) nilM)))))))))) nxM
/-- the loop that gathers the rows -/
theorem rows_loop {ls : List Q.Mx} {ρ : Env} {src : M (List D)} (hsrc : src ρ = .ok ((idx 0 ls).map fun x => .tuple [.int (x.1 : Nat), eM x.2]) ρ) (h1 : ρ 1 = .mu (.list [])) (h2 : (ρ 2).isM = false) (h3 : (ρ 3).isM = false) (h4 : ρ 4 = .un) (h5 : ρ 5 = .un) (h6 : ρ 6 = .un) (hl : (rowsOf ls).length ≤ 16777216) :
    ∃ ρ', forM' src (Pat.tp [Pat.nm 2, Pat.nm 3]) rowB ρ = .ok .nx ρ' ∧ ρ' 1 = .mu (.list ((rowsOf ls).map eR)) ∧ (ρ' 2).isM = false ∧ (ρ' 3).isM = false ∧ ρ' 4 = .un ∧ ρ' 5 = .un ∧ ρ' 6 = .un :=
  for_run (src := src) (p := .tp [.nm 2, .nm 3]) (b := rowB) (idx 0 ls) (fun x => PyData.tuple [.int (x.1 : Nat), eM x.2])
    (fun ws ρ => ρ 1 = .mu (.list ((rowsAt ws).map eR)) ∧ (ρ 2).isM = false ∧ (ρ 3).isM = false ∧ ρ 4 = .un ∧ ρ 5 = .un ∧ ρ 6 = .un) hsrc ⟨h1, h2, h3, h4, h5, h6⟩ (fun ws x us ρ e ⟨h1, h2, h3, h4, h5, h6⟩ => by
      have es : rowsAt (ws ++ [x]) = rowsAt ws ++ x.2.map fun p => (p.1, ((x.1 : Nat) : Int), p.2) := by unfold rowsAt; simp
      have le : (rowsAt ws).length + x.2.length ≤ 16777216 := by
        have : rowsOf ls = rowsAt (ws ++ [x]) ++ rowsAt us := by
          show rowsAt (idx 0 ls) = _
          rw [e]
          unfold rowsAt
          simp
        rw [this, es, List.length_append, List.length_append, List.length_map] at hl
        omega
      have cc := comp_map (ρ := (ρ.put 2 (.im (.int (x.1 : Nat)))).put 3 (.im (eM x.2))) (src := itsU (rdM 3)) (js := [4, 5]) (step := stepM (Pat.tp [Pat.nm 4, Pat.nm 5]) yesM (elM (tupM (consM (un1 lenD (rdM 4)) (consM (vrM 4) (consM (vrM 2) (consM (vrM 5) nilM)))))))
        x.2 eP (fun p => eR (p.1, ((x.1 : Nat) : Int), p.2)) (by simp [eM]) (by simp [nonM, h4, h5]) (szOk_of (by omega)) (fun p hp => ⟨_, by simp [szOk]; exact ⟨rfl, rfl⟩, agr_put (agr_put agr_wipe rfl) rfl⟩)
      have xr := ext_run (i := 1) (ρ := (ρ.put 2 (.im (.int (x.1 : Nat)))).put 3 (.im (eM x.2))) (xs := (rowsAt ws).map eR) (by simp [h1]) cc (by rw [List.length_map, List.length_map]; omega)
      refine ⟨_, _, by simp [notIo_of h2, notIo_of h3]; rfl, by simp [xr]; rfl, ?_⟩
      rw [es, List.map_append, List.map_map]
      simp [h4, h5, h6])
theorem sort_len (rs : List Tm) : (sortR rs).length = rs.length := (sortR_perm rs).length_eq
theorem trip_comp {ρ : Env} {src : M (List D)} {ts : List Tm} (hsrc : src ρ = .ok (ts.map eR) ρ) (h2 : (ρ 2).isM = false) (h4 : ρ 4 = .un) (h5 : ρ 5 = .un) (h6 : ρ 6 = .un) (hl : ts.length ≤ 16777216) :
    compM src [6, 4, 2, 5] (stepM (Pat.tp [Pat.nm 6, Pat.nm 4, Pat.nm 2, Pat.nm 5]) yesM (elM (tupM (consM (vrM 4) (consM (vrM 2) (consM (vrM 5) nilM)))))) ρ = .ok (.list (ts.map eT)) ρ :=
  comp_map ts eR eT hsrc (by simp [nonM, h2, h4, h5, h6]) (szOk_of hl) fun t ht => ⟨_, by simp [eR, szOk]; exact ⟨rfl, rfl⟩, agr_put (agr_put (agr_put (agr_put agr_wipe rfl) rfl) rfl) rfl⟩
def termsD (ls : List Q.Mx) : D := .tuple (((sortR (rowsOf ls)).reverse).map eT)
def RdL (X : D) (ls : List Q.Mx) : Prop := good 6 X = true ∧ tD X = eL ls
def Ok24 (T : Nat → Fn) : Prop := ∀ (X : D) (ls : List Q.Mx), RdL X ls → (rowsOf ls).length ≤ 16777216 → T 24 [X] = .ok (termsD ls) []
theorem ok24 {T : Nat → Fn} (h4 : Ok4 6 T) : Ok24 (S0.up T) := fun X ls ⟨gX, tX⟩ hl => by
  rw [u24]
  refine fn_ret ?_
  have cX := h4 X gX
  rw [tX] at cX
  have ee := enum_idx eM ls
  obtain ⟨ρ', e, h1, h2, h3, h4', h5, h6⟩ := rows_loop (ls := ls) (ρ := (entE [.dt] [X]).put 1 (.mu (.list []))) (src := overM enumDs (consM (callM (T 4) [Md.dt] [Ar.dt (vrM 0)]) nilM)) (by simp [ocV_ok cX, enumDs, eL, ee]) rfl rfl rfl rfl rfl rfl hl
  have cc := trip_comp (ρ := ρ') (src := itsU (un1 rvD (un1 srtD (rdM 1)))) (ts := (sortR (rowsOf ls)).reverse) (by simp [h1, srtD_R _ hl]) h2 h4' h5 h6 (by rw [List.length_reverse, sort_len]; exact hl)
  simp [f24, szOk, e, cc, termsD]
def Ok25 (T : Nat → Fn) : Prop := ∀ (X : D) (ls : List Q.Mx), RdL X ls → (rowsOf ls).length ≤ 16777216 → T 25 [X] = .ok (match (sortR (rowsOf ls)).reverse with
  | [] => .none
  | t :: _ => eT t) []
theorem ok25 {T : Nat → Fn} (h24 : Ok24 T) : Ok25 (S0.up T) := fun X ls h hl => by
  rw [u25]
  refine fn_ret ?_
  have c := h24 X ls h hl
  unfold termsD at c
  cases e : (sortR (rowsOf ls)).reverse with
  | nil =>
    rw [e] at c
    simp [f25, ocV_ok c]
  | cons t r =>
    rw [e] at c
    have z : (0 : Int) < (r.length : Int) + 1 := by omega
    simp [f25, ocV_ok c, z]
/-- the law's rows -/
def Ok47 (T : Nat → Fn) : Prop := ∀ (ls : List Q.Mx), (rowsOf ls).length ≤ 16777216 → T 47 [eL ls] = .ok (.list ((rowsOf ls).map eR)) []
theorem ok47 (T : Nat → Fn) : Ok47 (S0.up T) := fun ls hl => by
  rw [u47]
  refine fn_ret ?_
  have ee := enum_idx eM ls
  obtain ⟨ρ', e, h1, h2, h3, h4', h5, h6⟩ := rows_loop (ls := ls) (ρ := (entE [.dt] [eL ls]).put 1 (.mu (.list []))) (src := overM enumDs (consM (vrM 0) nilM)) (by simp [enumDs, eL, ee]) rfl rfl rfl rfl rfl rfl hl
  simp [f47, szOk, e, h1]
end Rf
end
section
set_option Elab.async false
set_option linter.all false
set_option maxRecDepth 100000
set_option maxHeartbeats 2000000
/-! S12: lengths, METHODS, fronts. -/
namespace Rf
open PySem PySem.Spec L2
theorem bindP_tp {ρ : Env} {ps : List Pat} {d : D} {ds : List D} (h : itemsD d = some ds) : bindP (.tp ps) d ρ = bindPs ps ds ρ := by
  unfold bindP
  rw [h]
theorem intsD_map : ∀ ns : List Int, intsD (ns.map .int) = some ns
  | [] => rfl
  | i :: ns => by
    have : intsD (PyData.int i :: ns.map .int) = (intsD (ns.map .int)).map (i :: ·) := rfl
    rw [List.map_cons, this, intsD_map ns]
    rfl
theorem maxD_ints {a : Int} {ns : List Int} : maxD (.list ((a :: ns).map .int)) = some (.int (maxI (a :: ns))) := by
  unfold maxD
  dsimp only
  rw [intsD_map]
  rfl
theorem maxI_congr {a b : List Int} (ha : a ≠ []) (h : ∀ x, x ∈ a ↔ x ∈ b) : maxI a = maxI b := by
  have hb : b ≠ [] := by
    cases a with
    | nil => exact absurd rfl ha
    | cons x a =>
      intro z
      have := (h x).mp List.mem_cons_self
      rw [z] at this
      cases this
  have mem : ∀ l : List Int, l ≠ [] → maxI l ∈ l ∧ ∀ y ∈ l, y ≤ maxI l := by
    intro l hl
    cases l with
    | nil => exact absurd rfl hl
    | cons x r =>
      obtain ⟨h1, h2⟩ := foldl_max_le r x
      refine ⟨?_, fun y hy => ?_⟩
      · rcases foldl_max_mem r x with e | e
        · show List.foldl max x r ∈ _
          rw [e]
          exact List.mem_cons_self
        · exact List.mem_cons_of_mem _ e
      · rcases List.mem_cons.mp hy with rfl | hy
        · exact h1
        · exact h2 y hy
  obtain ⟨a1, a2⟩ := mem a ha
  exact max_eq ((h _).mp a1) fun y hy => a2 y ((h y).mpr hy)
def lens (ls : List Q.Mx) : List Int := ls.flatMap fun m => m.map fun p => ((p.1.length : Nat) : Int)
theorem run26 (T : Nat → Fn) {X : D} {ls : List Q.Mx} (a : Q.Mx → D) (pe : Q.W × Rat → D) (we : Q.W → D) (fe : Rat → D) (hX : itemsU X = some (ls.map a)) (ha : ∀ m ∈ ls, itemsD (a m) = some (m.map pe)) (hp : ∀ p, itemsD (pe p) = some [we p.1, fe p.2]) (hw : ∀ w : Q.W, lenD (we w) = some (.int (w.length : Nat)))
    (hl : (lens ls).length ≤ 16000000) : S0.up T 26 [X] = .ok (.int (maxI (0 :: lens ls))) [] := by
  rw [u26]
  refine fn_ret ?_
  have e1 : ∀ l : List Q.Mx, l.flatMap (fun m => m.map fun p => PyData.int (p.1.length : Nat)) = (lens l).map .int := by
    intro l
    unfold lens
    rw [List.map_flatMap]
    congr 1
    funext m
    rw [List.map_map]
    rfl
  have cc := comp_gen (ρ := entE [.dt] [X]) (src := itsU (rdM 0)) (js := [1, 2, 3]) (step := stepM (Pat.nm 1) yesM (clM (itsM (wvM 1)) [2, 3] (stepM (Pat.tp [Pat.nm 2, Pat.nm 3]) yesM (elM (un1 lenD (rdM 2))))))
    ls a (fun m => m.map fun p => PyData.int (p.1.length : Nat)) (by simp [hX]) (by simp [nonM]) (by rw [e1, List.length_map]; exact szOk_of (by omega)) (fun m hm => by
      have ci := cl_gen (ρ := (wipeE (entE [.dt] [X]) [1, 2, 3]).put 1 (.im (a m))) (src := itsM (wvM 1)) (js := [2, 3]) (step := stepM (Pat.tp [Pat.nm 2, Pat.nm 3]) yesM (elM (un1 lenD (rdM 2))))
        m pe (fun p => [PyData.int (p.1.length : Nat)]) (by simp [ha m hm]) (by simp [nonM]) (fun p _ => ⟨_, by simp [bindP_tp (hp p), hw]; rfl, agr_put (agr_put agr_wipe rfl) rfl⟩)
      have ef : m.flatMap (fun p => [PyData.int (p.1.length : Nat)]) = m.map fun p => PyData.int (p.1.length : Nat) := by
        clear ci hm
        induction m with
        | nil => rfl
        | cons p m ih => rw [List.flatMap_cons, ih]; rfl
      rw [ef] at ci
      exact ⟨_, by simp [ci]; rfl, agr_put agr_wipe rfl⟩)
  rw [e1] at cc
  have z : addU (.list [.int 0]) (.list ((lens ls).map .int)) = some (.list ((0 :: lens ls).map .int)) := by
    rw [add_list (szOk_of (by rw [List.length_map]; show 1 + _ ≤ _; omega))]
    rfl
  have mx := maxD_ints (a := 0) (ns := lens ls)
  simp only [List.map_cons] at z mx
  simp [f26, szOk, cc, z, mx]
/-! ### sets of METHODS -/
def sI (ns : List Int) : List D := (srtK (ns.map NestedKey.num)).map NestedKey.data
theorem kLe_num (a b : Int) : kLe (.num a) (.num b) = decide (a ≤ b) := by
  show (!PySem.W.dataLt (.int b) (.int a)) = _
  rw [PySem.W.dataLt_int, Bool.eq_iff_iff]
  simp
theorem anti_nums (ns : List Int) : antiK (ns.map NestedKey.num) = true := by
  unfold antiK
  simp only [List.all_eq_true, List.mem_map]
  rintro _ ⟨a, _, rfl⟩ _ ⟨b, _, rfl⟩
  rw [kLe_num, kLe_num]
  by_cases h : a ≤ b
  · by_cases h2 : b ≤ a
    · have : a = b := by omega
      simp [this]
    · simp [h2]
  · simp [h]
theorem srtSet_I (ns : List Int) (h : ns.length < 63) : srtSetD (.list (ns.map .int)) = some (.list (sI ns)) := by
  unfold srtSetD
  dsimp only
  rw [keys_ints]
  dsimp only
  have : setOk (ns.map .int) (ns.map .num) = true := by
    unfold setOk
    have so : srtOk (ns.map .int) = true := by
      unfold srtOk
      rw [List.length_map, szOk_of (by omega)]
      simp only [Bool.true_and, Bool.and_eq_true, List.all_eq_true, List.mem_map, Bool.or_eq_true]
      refine ⟨⟨?_, ?_⟩, ?_⟩
      · rintro _ ⟨a, _, rfl⟩ _ ⟨b, _, rfl⟩
        rfl
      · right
        rintro _ ⟨a, _, rfl⟩
        exact ⟨rfl, rfl⟩
      · rintro _ ⟨a, _, rfl⟩
        rfl
    rw [so, List.length_map, decide_eq_true h, anti_nums]
    simp only [Bool.and_eq_true, Bool.true_and, Bool.and_true, Bool.or_eq_true]
    left
    simp only [List.all_eq_true, List.mem_map]
    rintro _ ⟨a, _, rfl⟩
    rfl
  rw [this, if_pos rfl]
  rfl
theorem sI_congr {a b : List Int} (h : ∀ x, x ∈ a ↔ x ∈ b) : sI a = sI b := by
  unfold sI
  congr 1
  refine srtK_eq (anti_nums b) (fun k => ?_) (nd_uniq _)
  rw [mem_uniq, List.mem_map, List.mem_map]
  constructor
  · rintro ⟨i, hi, rfl⟩
    exact ⟨i, (h i).mp hi, rfl⟩
  · rintro ⟨i, hi, rfl⟩
    exact ⟨i, (h i).mpr hi, rfl⟩
theorem run6 (T : Nat → Fn) {ns : List Int} (h : ns.length < 63) : S0.up T 6 [.list (ns.map .int)] = .ok (.tuple (sI ns)) [] := by
  rw [u6]
  refine fn_ret ?_
  simp [f6, srtSet_I ns h]
theorem run36 (T : Nat → Fn) {ns : List Int} (h : ns.length < 63) : S0.up T 36 [.list (ns.map .int)] = .ok (.tuple (sI ns)) [] := by
  rw [u36]
  refine fn_ret ?_
  simp [f36, srtSet_I ns h]
def lets (ls : List Q.Mx) : List Int := ls.flatMap fun m => m.flatMap fun p => p.1
theorem flat_one {α β : Type} (f : α → β) : ∀ l : List α, l.flatMap (fun x => [f x]) = l.map f
  | [] => rfl
  | x :: l => by rw [List.flatMap_cons, flat_one f l]; rfl
theorem run29 {T : Nat → Fn} {ls : List Q.Mx} (h6 : ∀ ns : List Int, ns.length < 63 → T 6 [.list (ns.map .int)] = .ok (.tuple (sI ns)) []) (h : (lets ls).length < 63) : S0.up T 29 [eL ls] = .ok (.tuple (sI (lets ls))) [] := by
  rw [u29]
  refine fn_ret ?_
  have e1 : ∀ l : List Q.Mx, l.flatMap (fun m => m.flatMap fun p => p.1.map PyData.int) = (lets l).map .int := by
    intro l
    unfold lets
    rw [List.map_flatMap]
    congr 1
    funext m
    rw [List.map_flatMap]
  have cc := comp_gen (ρ := entE [.dt] [eL ls]) (src := itsU (rdM 0)) (js := [1, 2, 3, 4]) (step := stepM (Pat.nm 1) yesM (clM (itsM (wvM 1)) [2, 3, 4] (stepM (Pat.tp [Pat.nm 2, Pat.nm 3]) yesM (clM (itsM (wvM 2)) [4] (stepM (Pat.nm 4) yesM (elM (vrM 4)))))))
    ls eM (fun m => m.flatMap fun p => p.1.map PyData.int) (by simp [eL]) (by simp [nonM]) (by rw [e1, List.length_map]; exact szOk_of (by omega)) (fun m hm => by
      have ci := cl_gen (ρ := (wipeE (entE [.dt] [eL ls]) [1, 2, 3, 4]).put 1 (.im (eM m))) (src := itsM (wvM 1)) (js := [2, 3, 4]) (step := stepM (Pat.tp [Pat.nm 2, Pat.nm 3]) yesM (clM (itsM (wvM 2)) [4] (stepM (Pat.nm 4) yesM (elM (vrM 4)))))
        m eP (fun p => p.1.map PyData.int) (by simp [eM]) (by simp [nonM]) (fun p _ => by
          have cj := cl_gen (ρ := ((wipeE ((wipeE (entE [.dt] [eL ls]) [1, 2, 3, 4]).put 1 (.im (eM m))) [2, 3, 4]).put 2 (.im (eW p.1))).put 3 (.im (eF p.2))) (src := itsM (wvM 2)) (js := [4]) (step := stepM (Pat.nm 4) yesM (elM (vrM 4)))
            p.1 PyData.int (fun i => [PyData.int i]) (by simp [eW]) (by simp [nonM]) (fun i _ => ⟨_, by simp; rfl, agr_put agr_wipe rfl⟩)
          rw [flat_one] at cj
          exact ⟨_, by simp [cj]; rfl, agr_put (agr_put agr_wipe rfl) rfl⟩)
      exact ⟨_, by simp [ci]; rfl, agr_put agr_wipe rfl⟩)
  rw [e1] at cc
  simp [f29, cc, ocV_ok (h6 _ h)]
/-! ### fronts -/
theorem cut_hi (u : List Int) (k : Nat) (h : k ≤ u.length) : cutDs (u.map PyData.int) none (some (k : Int)) = (u.take k).map .int := by
  unfold cutDs
  rw [HT.sIx_none, HT.sIx_nat, List.length_map, Nat.min_eq_left h]
  simp
theorem cut_lo (u : List Int) (k : Nat) (h : k ≤ u.length) : cutDs (u.map PyData.int) (some (k : Int)) none = (u.drop k).map .int := by
  unfold cutDs
  rw [HT.sIx_none, HT.sIx_nat, List.length_map, Nat.min_eq_left h, List.take_of_length_le (by rw [List.length_drop, List.length_map]; omega), List.map_drop]
def frontO (u v : Q.W) : Option Q.W := if v.length ≤ u.length ∧ u.drop (u.length - v.length) = v then some (u.take (u.length - v.length)) else none
def frontD (u v : Q.W) : D := match frontO u v with
  | some w => eW w
  | none => .none
theorem slD_W (w : Q.W) (lo hi : Option Int) : slD (eW w) lo hi = some (.tuple (cutDs (w.map .int) lo hi)) := by rfl
def Ok27 (T : Nat → Fn) : Prop := ∀ (X Y : D) (u v : Q.W), good 6 X = true → tD X = eW u → good 6 Y = true → tD Y = eW v → T 27 [X, Y] = .ok (frontD u v) []
theorem ok27 {T : Nat → Fn} (h4 : Ok4 6 T) : Ok27 (S0.up T) := fun X Y u v gX tX gY tY => by
  rw [u27]
  refine fn_ret ?_
  have cX := h4 X gX
  have cY := h4 Y gY
  rw [tX] at cX
  rw [tY] at cY
  by_cases hl : v.length ≤ u.length
  · have hk : (u.length : Int) - (v.length : Int) = ((u.length - v.length : Nat) : Int) := by omega
    have hge : (0 : Int) ≤ ((u.length - v.length : Nat) : Int) := by omega
    have e1 : slD (eW u) (some ((u.length - v.length : Nat) : Int)) none = some (eW (u.drop (u.length - v.length))) := by
      rw [slD_W, cut_lo u _ (Nat.sub_le _ _)]
      rfl
    have e2 : slD (eW u) none (some ((u.length - v.length : Nat) : Int)) = some (eW (u.take (u.length - v.length))) := by
      rw [slD_W, cut_hi u _ (Nat.sub_le _ _)]
      rfl
    unfold frontD frontO
    by_cases he : u.drop (u.length - v.length) = v
    · rw [if_pos ⟨hl, he⟩]
      rw [he] at e1
      simp only [f27, ev_seq, ev_par2, ev_call, arM_dt, arM_nil, ev_vr, entE_at]
      simp [ocV_ok cX, ocV_ok cY, hk, e1, e2, eq_WW, hl]
    · rw [if_neg fun z => he z.2]
      simp only [f27, ev_seq, ev_par2, ev_call, arM_dt, arM_nil, ev_vr, entE_at]
      simp [ocV_ok cX, ocV_ok cY, hk, e1, e2, eq_WW, hl, he]
  · have hlt : ¬ (0 : Int) ≤ (u.length : Int) - (v.length : Int) := by omega
    unfold frontD frontO
    rw [if_neg fun z => hl z.1]
    have hlt' : ¬ v.length ≤ u.length := hl
    simp [f27, ocV_ok cX, ocV_ok cY, hlt, hl]
end Rf
end
section
set_option Elab.async false
set_option linter.all false
set_option maxRecDepth 100000
set_option maxHeartbeats 2000000
/-! S13: what is plain. -/
namespace Rf
open PySem PySem.Spec L2
def isI : D → Bool
  | .int _ => true
  | _ => false
def cntB : D → Bool
  | .int i => decide (0 ≤ i)
  | _ => false
theorem run0 (T : Nat → Fn) {d : D} (h : noDic d = true) : S0.up T 0 [d] = .ok (.bool (isI d)) [] := by
  rw [u0]
  refine fn_ret ?_
  cases d with
  | int i =>
    have e1 : isD "int" (.int i) = true := by rfl
    have e2 : isD "bool" (.int i) = false := by rfl
    simp [f0, e1, e2, isI]
  | bool b =>
    have e1 : isD "int" (.bool b) = true := by rfl
    have e2 : isD "bool" (.bool b) = true := by rfl
    simp [f0, e1, e2, isI]
  | none =>
    have e1 : isD "int" .none = false := by rfl
    simp [f0, e1, isI]
  | str x =>
    have e1 : isD "int" (.str x) = false := by rfl
    simp [f0, e1, isI]
  | list x =>
    have e1 : isD "int" (.list x) = false := by rfl
    simp [f0, e1, isI]
  | tuple x =>
    have e1 : isD "int" (.tuple x) = false := by rfl
    simp [f0, e1, isI]
  | dict _ => cases h
def Ok0 (T : Nat → Fn) : Prop := ∀ d, noDic d = true → T 0 [d] = .ok (.bool (isI d)) []
def Ok1 (T : Nat → Fn) : Prop := ∀ d, noDic d = true → T 1 [d] = .ok (.bool (cntB d)) []
theorem ok1 {T : Nat → Fn} (h : Ok0 T) : Ok1 (S0.up T) := fun d hd => by
  rw [u1]
  refine fn_ret ?_
  have c := h d hd
  cases e : isI d with
  | false =>
    rw [e] at c
    have : cntB d = false := by cases d <;> first | rfl | cases e
    simp [f1, ocV_ok c, this]
  | true =>
    rw [e] at c
    cases d with
    | int i => simp [f1, ocV_ok c, cntB]
    | _ => cases e
def tupB (n : Nat) : D → Bool
  | .tuple xs => decide (xs.length = n)
  | _ => false
def Ok2 (T : Nat → Fn) : Prop := ∀ d (n : Nat), noDic d = true → T 2 [d, .int (n : Nat)] = .ok (.bool (tupB n d)) []
theorem isTup_no {d : D} (h : ∀ xs, d ≠ .tuple xs) : isD "tuple" d = false := by
  cases d with
  | tuple xs => exact absurd rfl (h xs)
  | _ => rfl
theorem ok2 (T : Nat → Fn) : Ok2 (S0.up T) := fun d n hd => by
  rw [u2]
  refine fn_ret ?_
  by_cases h : ∃ xs, d = .tuple xs
  · obtain ⟨xs, rfl⟩ := h
    simp [f2, isTuple_tuple, eq_int, tupB]
    omega
  · have e := isTup_no fun xs z => h ⟨xs, z⟩
    have : tupB n d = false := by
      cases d with
      | tuple xs => exact absurd ⟨xs, rfl⟩ h
      | _ => rfl
    simp [f2, hd, e, this]
def letB (k : Int) : D → Bool
  | .int i => decide (0 ≤ i) && decide (i < k)
  | _ => false
def wordB (k : Int) : D → Bool
  | .tuple xs => xs.all (letB k)
  | _ => false
theorem bls_map {α : Type} (g : α → Bool) : ∀ xs : List α, blsD (xs.map fun x => .bool (g x)) = some (xs.map g)
  | [] => rfl
  | x :: xs => by
    show (blsD (xs.map fun x => PyData.bool (g x))).map (g x :: ·) = _
    rw [bls_map g xs]
    rfl
theorem allD_map {α : Type} (g : α → Bool) (xs : List α) : allD (.list (xs.map fun x => .bool (g x))) = some (.bool (xs.all g)) := by
  unfold allD
  dsimp only
  rw [bls_map]
  simp [Function.comp_def]
theorem good_noDic {n : Nat} {d : D} (h : good n d = true) : noDic d = true := by
  cases d with
  | dict k => cases n <;> cases h
  | _ => rfl
theorem good_kids {n : Nat} {xs : List D} (h : good n (.tuple xs) = true) : xs.length ≤ 16777216 ∧ ∀ x ∈ xs, good (n - 1) x = true := by
  cases n with
  | zero => cases h
  | succ n =>
    obtain ⟨h1, h2⟩ := Bool.and_eq_true_iff.mp (show (szOk xs.length && xs.all (good n)) = true from h)
    exact ⟨Nat.le_of_ble_eq_true h1, fun x hx => List.all_eq_true.mp h2 x hx⟩
def Ok10 (T : Nat → Fn) : Prop := ∀ (d : D) (n : Nat) (k : Int), good n d = true → T 10 [d, .int k] = .ok (.bool (wordB k d)) []
theorem ok10 {T : Nat → Fn} (h : Ok1 T) : Ok10 (S0.up T) := fun d n k hd => by
  rw [u10]
  refine fn_ret ?_
  have nd := good_noDic hd
  by_cases ht : ∃ xs, d = .tuple xs
  · obtain ⟨xs, rfl⟩ := ht
    obtain ⟨l, g⟩ := good_kids hd
    have cc := comp_map (ρ := entE [.dt, .dt] [.tuple xs, .int k]) (src := itsU (rdM 0)) (js := [2]) (step := stepM (Pat.nm 2) yesM (elM (andM (callM (T 1) [Md.dt] [Ar.dt (vrM 2)]) (bin ltD (rdM 2) (rdM 1)))))
      xs id (fun x => .bool (letB k x)) (by simp) (by simp [nonM]) (szOk_of l) (fun x hx => by
        have c := h x (good_noDic (g x hx))
        cases e : cntB x with
        | false =>
          rw [e] at c
          have : letB k x = false := by
            cases x with
            | int i =>
              have e' : decide (0 ≤ i) = false := e
              show (decide (0 ≤ i) && decide (i < k)) = false
              rw [e']
              rfl
            | _ => rfl
          exact ⟨_, by simp [ocV_ok c, this]; rfl, agr_put agr_wipe rfl⟩
        | true =>
          rw [e] at c
          cases x with
          | int i =>
            have e' : decide (0 ≤ i) = true := e
            have : letB k (.int i) = decide (i < k) := by show (decide (0 ≤ i) && decide (i < k)) = _; rw [e']; rfl
            exact ⟨_, by simp [ocV_ok c, this]; rfl, agr_put agr_wipe rfl⟩
          | _ => cases e)
    simp [f10, isTuple_tuple, cc, allD_map, wordB]
  · have e := isTup_no fun xs z => ht ⟨xs, z⟩
    have : wordB k d = false := by
      cases d with
      | tuple xs => exact absurd ⟨xs, rfl⟩ ht
      | _ => rfl
    simp [f10, nd, e, this]
def fracB : D → Bool
  | .tuple [.int x, .int y] => decide (1 ≤ y) && decide (Int.gcd x y = 1)
  | _ => false
def Ok3 (T : Nat → Fn) : Prop := ∀ (d : D) (n : Nat), good n d = true → T 3 [d] = .ok (.bool (fracB d)) []
theorem ok3 {T : Nat → Fn} (h0 : Ok0 T) (h2 : Ok2 T) : Ok3 (S0.up T) := fun d n hd => by
  rw [u3]
  refine fn_ret ?_
  have c := h2 d 2 (good_noDic hd)
  cases e : tupB 2 d with
  | false =>
    rw [e] at c
    have : fracB d = false := by
      cases d with
      | tuple xs =>
        match xs, e with
        | [_, _], e => cases e
        | [], e => rfl
        | [x], e => cases x <;> rfl
        | x :: y :: _ :: _, e => cases x <;> cases y <;> rfl
      | _ => rfl
    have c' : T 2 [d, .int 2] = .ok (.bool false) [] := c
    simp [f3, ocV_ok c', this]
  | true =>
    rw [e] at c
    have c' : T 2 [d, .int 2] = .ok (.bool true) [] := c
    cases d with
    | tuple xs =>
      match xs, e with
      | [a, b], e =>
        obtain ⟨l, g⟩ := good_kids hd
        have ga := good_noDic (g a (by simp))
        have gb := good_noDic (g b (by simp))
        have ca := h0 a ga
        have cb := h0 b gb
        cases ea : isI a with
        | false =>
          rw [ea] at ca
          have : fracB (.tuple [a, b]) = false := by cases a <;> first | rfl | cases ea
          simp [f3, ocV_ok c', ocV_ok ca, this]
        | true =>
          rw [ea] at ca
          cases eb : isI b with
          | false =>
            rw [eb] at cb
            have : fracB (.tuple [a, b]) = false := by cases a <;> cases b <;> first | rfl | cases eb
            simp [f3, ocV_ok c', ocV_ok ca, ocV_ok cb, this]
          | true =>
            rw [eb] at cb
            cases a with
            | int x => cases b with
              | int y =>
                have gg : Nat.gcd x.natAbs y.natAbs = Int.gcd x y := rfl
                by_cases hy : 1 ≤ y
                · simp [f3, ocV_ok c', ocV_ok ca, ocV_ok cb, hy, gg, eq_int, fracB]
                  omega
                · simp [f3, ocV_ok c', ocV_ok ca, ocV_ok cb, hy, fracB]
              | _ => cases eb
            | _ => cases ea
      | [], e => cases e
      | [_], e => cases e
      | _ :: _ :: _ :: _, e => simp [tupB] at e
    | _ => cases e
/-! ### rises -/
def ltW (u v : Q.W) : Bool := decide (u.length < v.length ∨ (u.length = v.length ∧ u < v))
theorem lt_KK (u v : Q.W) : ltD (eK u) (eK v) = some (.bool (ltW u v)) := by
  unfold ltD ltOk
  rw [shaped_K, shaped_K, alike_K, show isNone (eK u) = false from rfl, lt_K]
  rfl
def risesB (ws : List Q.W) : Bool := (ws.zip (ws.drop 1)).all fun p => ltW p.1 p.2
theorem zip_map (f : Q.W → D) : ∀ (a b : List Q.W), zipD (a.map f) (b.map f) = (a.zip b).map fun p => .tuple [f p.1, f p.2]
  | [], b => by cases b <;> rfl
  | _ :: _, [] => rfl
  | x :: a, y :: b => by
    show PyData.tuple [f x, f y] :: zipD (a.map f) (b.map f) = _
    rw [zip_map f a b]
    rfl
def Ok5 (T : Nat → Fn) : Prop := ∀ ws : List Q.W, ws.length ≤ 16000000 → T 5 [.list (ws.map eK)] = .ok (.bool (risesB ws)) []
theorem ok5 (T : Nat → Fn) : Ok5 (S0.up T) := fun ws hl => by
  rw [u5]
  refine fn_ret ?_
  have ed : cutDs (ws.map eK) (some 1) none = (ws.drop 1).map eK := by
    unfold cutDs
    have : HT.sIx (ws.map eK).length 0 (some 1) = min 1 (ws.map eK).length := HT.sIx_nat _ _ 1
    rw [HT.sIx_none, this, List.length_map]
    cases ws with
    | nil => rfl
    | cons w ws =>
      have : min 1 (w :: ws).length = 1 := by simp
      rw [this, List.take_of_length_le (by simp), List.map_drop]
  have es : slD (.list (ws.map eK)) (some 1) none = some (.list ((ws.drop 1).map eK)) := by
    show some (PyData.list (cutDs _ _ _)) = _
    rw [ed]
  have cc := comp_map (ρ := entE [.dt] [.list (ws.map eK)]) (src := overM zipDs (consM (vrM 0) (consM (slM slD (rdM 0) (somePt (M.pure (PyData.int 1))) noPt) nilM))) (js := [1, 2]) (step := stepM (Pat.tp [Pat.nm 1, Pat.nm 2]) yesM (elM (bin ltD (rdM 1) (rdM 2))))
    (ws.zip (ws.drop 1)) (fun p => .tuple [eK p.1, eK p.2]) (fun p => .bool (ltW p.1 p.2)) (by simp [es, zipDs, zip_map, -List.map_drop, -List.drop_one]) (by simp [nonM]) (szOk_of (by rw [List.length_zip]; omega)) (fun p hp => ⟨_, by simp [lt_KK]; rfl, agr_put (agr_put agr_wipe rfl) rfl⟩)
  simp [f5, cc, allD_map, risesB]
/-! ### MIXES that are plain -/
def pairB (k : Int) : D → Bool
  | .tuple [a, b] => wordB k a && (fracB b && !(PyData.eqv b (.tuple [.int 0, .int 1])))
  | _ => false
theorem frac_shaped {b : D} (h : fracB b = true) : SeqAt.shaped b = true := by
  cases b with
  | tuple xs =>
    match xs, h with
    | [.int x, .int y], h => rfl
  | _ => cases h
theorem ne_part {b : D} (h : SeqAt.shaped b = true) : neD b (.tuple [.int 0, .int 1]) = some (.bool (!(PyData.eqv b (.tuple [.int 0, .int 1])))) := by
  unfold neD
  rw [h]
  rfl
/-- a tuple of pairs: how it is judged -/
theorem pair_comp {T : Nat → Fn} (h10 : Ok10 T) (h3 : Ok3 T) {k : Int} {n : Nat} {zs : List (D × D)} {ρ : Env} (h0 : ρ 0 = .im (.tuple (zs.map fun z => .tuple [z.1, z.2]))) (h1 : ρ 1 = .im (.int k)) (h3' : ρ 3 = .un) (h4 : ρ 4 = .un) (hg : ∀ z ∈ zs, good n z.1 = true ∧ good n z.2 = true) (hl : zs.length ≤ 16777216) :
    compM (itsU (rdM 0)) [3, 4] (stepM (Pat.tp [Pat.nm 3, Pat.nm 4]) yesM (elM (andM (callM (T 10) [Md.dt, Md.dt] [Ar.dt (vrM 3), Ar.dt (vrM 1)]) (andM (callM (T 3) [Md.dt] [Ar.dt (vrM 4)]) (bin neD (rdM 4) (M.pure (PyData.tuple [PyData.int 0, PyData.int 1]))))))) ρ =
      .ok (.list (zs.map fun z => .bool (pairB k (.tuple [z.1, z.2])))) ρ :=
  comp_map zs (fun z => PyData.tuple [z.1, z.2]) _ (by simp [h0]) (by simp [nonM, h3', h4]) (szOk_of hl) fun z hz => by
    have c1 := h10 z.1 n k (hg z hz).1
    have c2 := h3 z.2 n (hg z hz).2
    cases e1 : wordB k z.1 with
    | false =>
      rw [e1] at c1
      exact ⟨_, by simp [h1, ocV_ok c1, pairB, e1]; rfl, agr_put (agr_put agr_wipe rfl) rfl⟩
    | true =>
      rw [e1] at c1
      cases e2 : fracB z.2 with
      | false =>
        rw [e2] at c2
        exact ⟨_, by simp [h1, ocV_ok c1, ocV_ok c2, pairB, e1, e2]; rfl, agr_put (agr_put agr_wipe rfl) rfl⟩
      | true =>
        rw [e2] at c2
        exact ⟨_, by simp [h1, ocV_ok c1, ocV_ok c2, ne_part (frac_shaped e2), pairB, e1, e2]; rfl, agr_put (agr_put agr_wipe rfl) rfl⟩
theorem two_comp {T : Nat → Fn} (h2 : Ok2 T) {n : Nat} {xs : List D} {ρ : Env} (h0 : ρ 0 = .im (.tuple xs)) (h2' : ρ 2 = .un) (hg : ∀ x ∈ xs, good n x = true) (hl : xs.length ≤ 16777216) :
    compM (itsU (rdM 0)) [2] (stepM (Pat.nm 2) yesM (elM (callM (T 2) [Md.dt, Md.dt] [Ar.dt (vrM 2), Ar.dt (M.pure (PyData.int 2))]))) ρ = .ok (.list (xs.map fun x => .bool (tupB 2 x))) ρ :=
  comp_map xs id _ (by simp [h0]) (by simp [nonM, h2']) (szOk_of hl) fun x hx => by
    have c : T 2 [x, .int 2] = .ok (.bool (tupB 2 x)) [] := h2 x 2 (good_noDic (hg x hx))
    exact ⟨_, by simp [ocV_ok c]; rfl, agr_put agr_wipe rfl⟩
theorem two_of {xs : List D} (h : xs.all (tupB 2) = true) : ∃ zs : List (D × D), xs = zs.map fun z => .tuple [z.1, z.2] := by
  induction xs with
  | nil => exact ⟨[], rfl⟩
  | cons x xs ih =>
    rw [List.all_cons, Bool.and_eq_true] at h
    obtain ⟨zs, e⟩ := ih h.2
    cases x with
    | tuple ys =>
      match ys, h.1 with
      | [a, b], _ => exact ⟨(a, b) :: zs, by rw [e]; rfl⟩
      | [], h => cases h
      | [_], h => cases h
      | _ :: _ :: _ :: _, h => simp [tupB] at h
    | _ => cases h.1
/-- not plain: no tuple, a member that is no pair, a pair that is not as it should be -/
def badM (k : Int) : D → Bool
  | .tuple xs => !(xs.all (tupB 2)) || !(xs.all (pairB k))
  | _ => true
def Ok11n (T : Nat → Fn) : Prop := ∀ (d : D) (n : Nat) (k : Int), good n d = true → badM k d = true → T 11 [d, .int k] = .ok (.bool false) []
theorem ok11n {T : Nat → Fn} (h2 : Ok2 T) (h3 : Ok3 T) (h10 : Ok10 T) : Ok11n (S0.up T) := fun d n k hd hb => by
  rw [u11]
  refine fn_ret ?_
  have nd := good_noDic hd
  by_cases ht : ∃ xs, d = .tuple xs
  · obtain ⟨xs, rfl⟩ := ht
    obtain ⟨l, g⟩ := good_kids hd
    have c1 := two_comp h2 (ρ := entE [.dt, .dt] [.tuple xs, .int k]) rfl rfl g l
    cases e : xs.all (tupB 2) with
    | false => simp [f11, isTuple_tuple, c1, allD_map, e]
    | true =>
      obtain ⟨zs, rfl⟩ := two_of e
      have hb' : (zs.map fun z => PyData.tuple [z.1, z.2]).all (pairB k) = false := by
        have : (!((zs.map fun z => PyData.tuple [z.1, z.2]).all (tupB 2)) || !((zs.map fun z => PyData.tuple [z.1, z.2]).all (pairB k))) = true := hb
        rw [e] at this
        simpa using this
      have c2 := pair_comp h10 h3 (k := k) (n := n - 1 - 1) (zs := zs) (ρ := entE [.dt, .dt] [.tuple (zs.map fun z => .tuple [z.1, z.2]), .int k]) rfl rfl rfl rfl (fun z hz => by
        have := (good_kids (g (.tuple [z.1, z.2]) (List.mem_map.mpr ⟨z, hz, rfl⟩))).2
        exact ⟨this _ (by simp), this _ (by simp)⟩) (by rw [List.length_map] at l; exact l)
      rw [List.all_map] at hb'
      have hb2 : (zs.all fun z => pairB k (.tuple [z.1, z.2])) = false := hb'
      simp only [f11, ev_seq, ev_if, ev_orT, ev_notT, ev_tru, ev_isM, ev_rd, entE_at]
      simp [isTuple_tuple, c1, c2, allD_map, e, hb2, -List.map_map, -List.all_map]
  · have e := isTup_no fun xs z => ht ⟨xs, z⟩
    simp [f11, nd, e]
/-- a MIX of these METHODS, its WORDS in whatever order -/
def Ok11 (T : Nat → Fn) : Prop := ∀ (m : Q.Mx) (k : Int), Ln m → m.length ≤ 1000000 → (∀ p ∈ m, p.2 ≠ 0 ∧ ∀ i ∈ p.1, 0 ≤ i ∧ i < k) → T 11 [eM m, .int k] = .ok (.bool (risesB (Q.keys m))) []
theorem frac_F (q : Rat) : fracB (eF q) = true := by
  show (decide ((1 : Int) ≤ (q.den : Int)) && decide (Int.gcd q.num q.den = 1)) = true
  rw [Bool.and_eq_true, decide_eq_true_eq, decide_eq_true_eq]
  exact ⟨by have := Q.den_pos q; omega, q.reduced⟩
theorem pair_P {p : Q.W × Rat} {k : Int} (h : p.2 ≠ 0 ∧ ∀ i ∈ p.1, 0 ≤ i ∧ i < k) : pairB k (eP p) = true := by
  show (wordB k (eW p.1) && (fracB (eF p.2) && !(PyData.eqv (eF p.2) (.tuple [.int 0, .int 1])))) = true
  rw [frac_F, eqv_F0]
  have e1 : wordB k (eW p.1) = true := by
    show (p.1.map PyData.int).all (letB k) = true
    rw [List.all_map, List.all_eq_true]
    intro i hi
    show (decide (0 ≤ i) && decide (i < k)) = true
    rw [decide_eq_true (h.2 i hi).1, decide_eq_true (h.2 i hi).2]
    rfl
  rw [e1]
  simpa using h.1
theorem ok11 {T : Nat → Fn} (h2 : Ok2 T) (h3 : Ok3 T) (h5 : Ok5 T) (h10 : Ok10 T) : Ok11 (S0.up T) := fun m k hln hl hm => by
  rw [u11]
  refine fn_ret ?_
  have c1 := two_comp h2 (n := 2) (xs := m.map eP) (ρ := entE [.dt, .dt] [eM m, .int k]) rfl rfl (good_Ps hln) (by rw [List.length_map]; omega)
  have a1 : ((m.map eP).all (tupB 2)) = true := by
    rw [List.all_map, List.all_eq_true]
    intro p _
    rfl
  have ez : (m.map fun p => (eW p.1, eF p.2)).map (fun z : D × D => PyData.tuple [z.1, z.2]) = m.map eP := by rw [List.map_map]; rfl
  have c2 := pair_comp h10 h3 (k := k) (n := 1) (zs := m.map fun p => (eW p.1, eF p.2)) (ρ := entE [.dt, .dt] [eM m, .int k]) (by rw [ez]; rfl) rfl rfl rfl (fun z hz => by
    obtain ⟨p, hp, rfl⟩ := List.mem_map.mp hz
    exact ⟨good_W (hln p hp), good_F _⟩) (by rw [List.length_map]; omega)
  rw [List.map_map] at c2
  have e2 : m.map ((fun z : D × D => PyData.bool (pairB k (.tuple [z.1, z.2]))) ∘ fun p => (eW p.1, eF p.2)) = m.map fun p => .bool (pairB k (eP p)) := rfl
  rw [e2] at c2
  have a2 : (m.all fun p => pairB k (eP p)) = true := by
    rw [List.all_eq_true]
    intro p hp
    exact pair_P (hm p hp)
  have c3 := comp_map (ρ := entE [.dt, .dt] [eM m, .int k]) (src := itsU (rdM 0)) (js := [3, 5]) (step := stepM (Pat.tp [Pat.nm 3, Pat.nm 5]) yesM (elM (tupM (consM (un1 lenD (rdM 3)) (consM (vrM 3) nilM)))))
    m eP (fun p => eK p.1) (by simp [eM]) (by simp [nonM]) (szOk_of (by omega)) (fun p hp => ⟨_, by simp [szOk]; exact ⟨rfl, rfl⟩, agr_put (agr_put agr_wipe rfl) rfl⟩)
  have e3 : m.map (fun p => eK p.1) = (Q.keys m).map eK := by unfold Q.keys; rw [List.map_map]; rfl
  rw [e3] at c3
  have c := h5 (Q.keys m) (by rw [keys_len]; omega)
  have it : isD "tuple" (eM m) = true := by rfl
  have nd : noDic (eM m) = true := rfl
  simp only [f11, ev_seq, ev_if, ev_orT, ev_notT, ev_tru, ev_isM, ev_rd, entE_at]
  simp [it, nd, c1, c2, c3, allD_map, a1, a2, ocV_ok c, -List.all_map, -List.map_map]
theorem ok12 {T : Nat → Fn} (h2 : Ok2 T) {xs : List D} {g : D → Bool} {n : Nat} {k : Int} (hl : xs.length = n) (hl2 : n ≤ 1000000) (h : ∀ x ∈ xs, T 11 [x, .int k] = .ok (.bool (g x)) []) : S0.up T 12 [.tuple xs, .int (n : Nat), .int k] = .ok (.bool (xs.all g)) [] := by
  rw [u12]
  refine fn_ret ?_
  have c : T 2 [.tuple xs, .int (n : Nat)] = .ok (.bool true) [] := by
    rw [h2 _ n rfl]
    show FOut.ok (.bool (decide (xs.length = n))) [] = _
    rw [decide_eq_true hl]
  have cc := comp_map (ρ := entE [.dt, .dt, .dt] [.tuple xs, .int (n : Nat), .int k]) (src := itsU (rdM 0)) (js := [3]) (step := stepM (Pat.nm 3) yesM (elM (callM (T 11) [Md.dt, Md.dt] [Ar.dt (vrM 3), Ar.dt (vrM 2)])))
    xs id (fun x => .bool (g x)) (by simp) (by simp [nonM]) (szOk_of (by omega)) (fun x hx => ⟨_, by simp [ocV_ok (h x hx)]; rfl, agr_put agr_wipe rfl⟩)
  simp [f12, ocV_ok c, cc, allD_map]
theorem ok12n {T : Nat → Fn} (h2 : Ok2 T) {d : D} {n : Nat} {k : Int} (hd : noDic d = true) (h : tupB n d = false) : S0.up T 12 [d, .int (n : Nat), .int k] = .ok (.bool false) [] := by
  rw [u12]
  refine fn_ret ?_
  have c := h2 d n hd
  rw [h] at c
  simp [f12, ocV_ok c]
end Rf
end
section
set_option Elab.async false
set_option linter.all false
set_option maxRecDepth 100000
set_option maxHeartbeats 2000000
/-! S14: draws. -/
namespace Rf
open PySem PySem.Spec L2
theorem set_list' {i : Nat} {mk m : M D} {ρ ρ1 ρ2 : Env} {d : D} {j : Int} {n : Nat} {ds ds2 : List D} (h1 : m ρ = .ok d ρ1) (h2 : (ρ1 i).val = some (.list ds)) (h3 : mk ρ1 = .ok (.int j) ρ2) (h4 : (ρ2 i).val = some (.list ds2)) (h5 : ixN ds2.length j = some n) :
    setXM i mk m ρ = .ok .nx (upM ρ2 i (.list (ds2.set n d))) := by
  unfold setXM
  rw [ev_bind, h1, ob_ok, h2]
  dsimp only
  rw [ev_bind, h3, ob_ok]
  unfold ownL
  rw [h4]
  dsimp only
  rw [h5]
@[simp] theorem ix_l0 (a : D) (r : List D) : ixU (.list (a :: r)) (.int 0) = some a := by simp [ixU, ixD, atI, ixN]
@[simp] theorem ix_l1 (a b : D) (r : List D) : ixU (.list (a :: b :: r)) (.int 1) = some b := by
  have : (1 : Int) < (r.length : Int) + 1 + 1 := by omega
  simp [ixU, ixD, atI, ixN, this]
@[simp] theorem ix_l2 (a b c : D) (r : List D) : ixU (.list (a :: b :: c :: r)) (.int 2) = some c := by
  have : (2 : Int) < (r.length : Int) + 1 + 1 + 1 := by omega
  simp [ixU, ixD, atI, ixN, this]
def tin3 (a b c : Int) : D := .list [.int a, .int b, .int c]
/-- the box behind so many draws -/
def Tin (t : D) (n : Nat) : Prop := ∃ a b c : Int, t = tin3 a b c ∧ 0 ≤ a ∧ a.natAbs < 2 ^ 2000000 ∧ 0 ≤ b ∧ b < 9223372036854775808 ∧ 0 ≤ c ∧ c ≤ n
theorem mul_small {i j : Int} (h1 : i.natAbs < 2 ^ 1000) (h2 : j.natAbs < 2 ^ 1000) : mulOk i j = true := mul_ok h1 h2 (by omega)
theorem lt_1000 {i : Int} (h1 : 0 ≤ i) (h2 : i < 1267650600228229401496703205376) : i.natAbs < 2 ^ 1000 := by
  have : (1267650600228229401496703205376 : Nat) = 2 ^ 100 := by decide
  have h : i.natAbs < 2 ^ 100 := by omega
  exact Nat.lt_of_lt_of_le h (Nat.pow_le_pow_right (by omega) (by omega))
def Ok31 (T : Nat → Fn) : Prop := ∀ (t : D) (n : Nat) (b : Int), Tin t n → n ≤ 1000000 → 0 < b → b ≤ 1000 → ∃ (d : Int) (t' : D), T 31 [t, .int b] = .ok (.int d) [t'] ∧ 0 ≤ d ∧ d < b ∧ Tin t' (n + 1)
theorem fmod_lt {x m : Int} (h : 0 < m) : 0 ≤ x.fmod m ∧ x.fmod m < m := ⟨Int.fmod_nonneg_of_pos x h, Int.fmod_lt_of_pos x h⟩
theorem ok31 (T : Nat → Fn) : Ok31 (S0.up T) := fun t n k ⟨a, b, c, ht, a1, a2, b1, b2, c1, c2⟩ hn k1 k2 => by
  rw [u31]
  subst ht
  by_cases ha : 0 < a
  · have kd : divOk k = true := div_ok (n := 10) (by omega) (by omega) (by omega)
    have s1 := set_list' (i := 0) (mk := M.pure (PyData.int 0)) (m := bin fdivD (bin ixU (rdM 0) (M.pure (PyData.int 0))) (rdM 1)) (ρ := (entE [.io, .dt] [tin3 a b c, .int k]).put 2 (.im (.int (a.fmod k)))) (ρ1 := (entE [.io, .dt] [tin3 a b c, .int k]).put 2 (.im (.int (a.fmod k)))) (ρ2 := (entE [.io, .dt] [tin3 a b c, .int k]).put 2 (.im (.int (a.fmod k))))
      (d := .int (a.fdiv k)) (ds := [.int a, .int b, .int c]) (ds2 := [.int a, .int b, .int c]) (j := 0) (n := 0) (by simp [tin3, fdiv_int kd]) (by simp [tin3]) (by simp) (by simp [tin3]) (by simp [ixN])
    have r : f31 T (entE [.io, .dt] [tin3 a b c, .int k]) = .ok (.rt (.int (a.fmod k))) (upM ((entE [.io, .dt] [tin3 a b c, .int k]).put 2 (.im (.int (a.fmod k)))) 0 (.list [.int (a.fdiv k), .int b, .int c])) := by
      have hm : modD (.int a) (.int k) = some (.int (a.fmod k)) := mod_int (by omega)
      have e : tin3 a b c = .list [.int a, .int b, .int c] := rfl
      rw [e] at s1 ⊢
      simp [f31, ha, hm, s1]
    refine ⟨a.fmod k, tin3 (a.fdiv k) b c, ?_, (fmod_lt k1).1, (fmod_lt k1).2, a.fdiv k, b, c, rfl, Int.fdiv_nonneg a1 (by omega), ?_, b1, b2, c1, by omega⟩
    · rw [fn_rt r]
      simp [tin3]
    · rw [Int.fdiv_eq_ediv_of_nonneg _ (by omega)]
      have : (a / k).natAbs ≤ a.natAbs := Int.natAbs_ediv_le_natAbs a k
      omega
  · have ha0 : a = 0 := by omega
    subst ha0
    obtain ⟨once, ho⟩ : ∃ x, x = ((b + 48271 * (c + 1)) * (39373 + (c + 1))).fmod 2147483647 := ⟨_, rfl⟩
    obtain ⟨wide, hw⟩ : ∃ x, x = once.fmod 40009 + 7 := ⟨_, rfl⟩
    obtain ⟨twice, hv⟩ : ∃ x, x = ((once + (c + 1) + b.fdiv 1000003) * wide).fmod 2147483629 := ⟨_, rfl⟩
    obtain ⟨last, hz⟩ : ∃ x, x = (((twice * 48271 + once).fmod 2147483587).fdiv 64).fmod k := ⟨_, rfl⟩
    have o1 : 0 ≤ once ∧ once < 2147483647 := by rw [ho]; exact fmod_lt (by omega)
    have w1 : 0 ≤ wide ∧ wide < 50000 := by have := fmod_lt (x := once) (m := 40009) (by omega); omega
    have v1 : 0 ≤ twice ∧ twice < 2147483629 := by rw [hv]; exact fmod_lt (by omega)
    have bd : 0 ≤ b.fdiv 1000003 ∧ b.fdiv 1000003 ≤ b := by rw [Int.fdiv_eq_ediv_of_nonneg _ (by omega)]; omega
    have m1 : mulOk 48271 (c + 1) = true := mul_small (lt_1000 (by omega) (by omega)) (lt_1000 (by omega) (by omega))
    have m2 : mulOk (b + 48271 * (c + 1)) (39373 + (c + 1)) = true := mul_small (lt_1000 (by omega) (by omega)) (lt_1000 (by omega) (by omega))
    have m3 : mulOk (once + (c + 1) + b.fdiv 1000003) wide = true := mul_small (lt_1000 (by omega) (by omega)) (lt_1000 (by omega) (by omega))
    have m4 : mulOk twice 48271 = true := mul_small (lt_1000 (by omega) (by omega)) (lt_1000 (by omega) (by omega))
    have d1 : divOk 1000003 = true := by decide +kernel
    have d2 : divOk 64 = true := by decide +kernel
    have s1 := set_list' (i := 0) (mk := M.pure (PyData.int 2)) (m := bin addU (bin ixU (rdM 0) (M.pure (PyData.int 2))) (M.pure (PyData.int 1))) (ρ := entE [.io, .dt] [.list [.int 0, .int b, .int c], .int k]) (ρ1 := entE [.io, .dt] [.list [.int 0, .int b, .int c], .int k]) (ρ2 := entE [.io, .dt] [.list [.int 0, .int b, .int c], .int k])
      (d := .int (c + 1)) (ds := [.int 0, .int b, .int c]) (ds2 := [.int 0, .int b, .int c]) (j := 2) (n := 2) (by simp) (by simp) (by simp) (by simp) (by simp [ixN])
    have hm : modD (.int (((twice * 48271 + once).fmod 2147483587).fdiv 64)) (.int k) = some (.int last) := by rw [hz]; exact mod_int (by omega)
    have q1 : modD (.int ((b + 48271 * (c + 1)) * (39373 + (c + 1)))) (.int 2147483647) = some (.int once) := by rw [ho]; exact mod_int (by omega)
    have q2 : modD (.int once) (.int 40009) = some (.int (once.fmod 40009)) := mod_int (by omega)
    have q3 : modD (.int ((once + (c + 1) + b.fdiv 1000003) * wide)) (.int 2147483629) = some (.int twice) := by rw [hv]; exact mod_int (by omega)
    have q4 : modD (.int (twice * 48271 + once)) (.int 2147483587) = some (.int ((twice * 48271 + once).fmod 2147483587)) := mod_int (by omega)
    have r : ∃ ρ', f31 T (entE [.io, .dt] [.list [.int 0, .int b, .int c], .int k]) = .ok (.rt (.int last)) ρ' ∧ ρ' 0 = .io (.list [.int 0, .int b, .int (c + 1)]) := by
      refine ⟨_, by simp [f31, s1, mul_int m1, mul_int m2, q1, q2, ← hw, fdiv_int d1, mul_int m3, q3, mul_int m4, q4, fdiv_int d2, hm]; rfl, ?_⟩
      simp
    obtain ⟨ρ', r1, r2⟩ := r
    refine ⟨last, tin3 0 b (c + 1), ?_, ?_, ?_, 0, b, c + 1, rfl, by omega, Nat.two_pow_pos _, b1, b2, by omega, by omega⟩
    · show fnOf _ _ _ [.list [.int 0, .int b, .int c], .int k] = _
      rw [fn_rt r1]
      simp [r2, tin3]
    · rw [hz]; exact (fmod_lt k1).1
    · rw [hz]; exact (fmod_lt k1).2
/-! ### the box -/
theorem pow18 : powD (.int 10) (.int 18) = some (.int 1000000000000000000) := by rfl
def Ok30 (T : Nat → Fn) : Prop := ∀ c : Int, c.natAbs < 2 ^ 1999999 → ∃ t, T 30 [.list [.int c], .int 0] = .ok t [] ∧ Tin t 0
theorem ok30 (T : Nat → Fn) : Ok30 (S0.up T) := fun c hc => by
  have m1 : mulOk (c.natAbs : Nat) 1 = true := mul_ok (n := 1999999) (m := 1) (by simpa using hc) (by decide) (by omega)
  have m0 : mulOk (c.natAbs : Nat) 0 = true := mul_ok (n := 1999999) (m := 1) (by simpa using hc) (by decide) (by omega)
  have k0 : mulOk 39373 0 = true := by decide +kernel
  have q : modD (.int c) (.int 2305843009213693951) = some (.int (c.fmod 2305843009213693951)) := mod_int (by omega)
  have b1 := fmod_lt (x := c) (m := 2305843009213693951) (by omega)
  have h2 : c.natAbs < 2 ^ 2000000 := Nat.lt_of_lt_of_le hc (Nat.pow_le_pow_right (by omega) (by omega))
  by_cases h : (1000000000000000000 : Int) ≤ (c.natAbs : Nat)
  · refine ⟨tin3 (c.natAbs : Nat) (c.fmod 2305843009213693951 + 58147) 0, ?_, _, _, _, rfl, by omega, by simpa using h2, by omega, by omega, by omega, by omega⟩
    rw [u30]
    refine fn_ret ?_
    have i1 : intD (.bool true) = some (.int 1) := rfl
    simp [f30, pow18, h, i1, mul_int m1, mul_int k0, q, szOk, tin3]
  · refine ⟨tin3 0 (c.fmod 2305843009213693951 + 58147) 0, ?_, _, _, _, rfl, by omega, Nat.two_pow_pos _, by omega, by omega, by omega, by omega⟩
    rw [u30]
    refine fn_ret ?_
    have i1 : intD (.bool false) = some (.int 0) := rfl
    simp [f30, pow18, h, i1, mul_int m0, mul_int k0, q, szOk, tin3]
/-! ### the first numbers -/
theorem cut_mem {α : Type} (f : α → D) (xs : List α) (lo hi : Option Int) : ∃ ys : List α, cutDs (xs.map f) lo hi = ys.map f ∧ (∀ y ∈ ys, y ∈ xs) ∧ ys.length ≤ xs.length := by
  unfold cutDs
  rw [List.length_map, ← List.map_drop, ← List.map_take]
  exact ⟨_, rfl, fun y hy => List.mem_of_mem_drop (List.mem_of_mem_take hy), by rw [List.length_take, List.length_drop]; omega⟩
theorem cut_first (xs : List Int) : cutDs (xs.map PyData.int) none (some 1) = (xs.take 1).map .int := by
  unfold cutDs
  have : HT.sIx (xs.map PyData.int).length (xs.map PyData.int).length (some 1) = min 1 (xs.map PyData.int).length := HT.sIx_nat _ _ 1
  rw [HT.sIx_none, this, List.length_map]
  cases xs with
  | nil => rfl
  | cons x xs => simp
def Ok32 (T : Nat → Fn) : Prop := ∀ ns : List Int, ns.length ≤ 63 → (∀ z ∈ ns, z.natAbs < 2 ^ 1048577) → ∃ c : Int, T 32 [.list (ns.map .int), .int 1] = .ok (.list [.int c]) [] ∧ c.natAbs < 2 ^ 1999999
theorem idx_cut {α : Type} : ∀ (k : Nat) (xs : List α) {ws us : List (Nat × α)} {x : Nat × α}, idx k xs = ws ++ x :: us → x.1 = k + ws.length ∧ x.2 ∈ xs ∧ ws.length < xs.length
  | k, [], ws, us, x, h => by
    unfold idx at h
    cases ws <;> cases h
  | k, y :: xs, [], us, x, h => by
    unfold idx at h
    injection h with h1 h2
    subst h1
    exact ⟨rfl, List.mem_cons_self, by simp⟩
  | k, y :: xs, w :: ws, us, x, h => by
    unfold idx at h
    injection h with h1 h2
    obtain ⟨a, b, c⟩ := idx_cut (k + 1) xs h2
    exact ⟨by rw [a, List.length_cons]; omega, List.mem_cons_of_mem _ b, by rw [List.length_cons, List.length_cons]; omega⟩
theorem ok32 (T : Nat → Fn) : Ok32 (S0.up T) := fun ns hl hz => by
  rw [u32]
  obtain ⟨ys, e1, e2, e3⟩ := cut_mem PyData.int ns (some 1) (some 63)
  have s2 : slD (.list (ns.map .int)) (some 1) (some 63) = some (.list (ys.map .int)) := by
    show some (PyData.list (cutDs _ _ _)) = _
    rw [e1]
  have s1 : slD (.list (ns.map .int)) none (some 1) = some (.list ((ns.take 1).map .int)) := by
    show some (PyData.list (cutDs _ _ _)) = _
    rw [cut_first]
  obtain ⟨c0, hc0, hb0⟩ : ∃ c0 : Int, asMu 2 (orM (un1 listD (slM slD (rdM 0) noPt (somePt (rdM 1)))) (lstM (consM (M.pure (PyData.int 0)) nilM))) (entE [.bo, .dt] [.list (ns.map .int), .int 1]) = .ok .nx ((entE [.bo, .dt] [.list (ns.map .int), .int 1]).put 2 (.mu (.list [.int c0]))) ∧ c0.natAbs < 2 ^ 1048577 := by
    cases ns with
    | nil => exact ⟨0, by simp at s1; simp [s1, szOk], Nat.two_pow_pos _⟩
    | cons a ns => exact ⟨a, by simp at s1; simp [s1], hz a List.mem_cons_self⟩
  have ee := enum_idx PyData.int ys
  obtain ⟨ρ', e, ⟨c, h2, hb⟩, _⟩ := for_run (src := overM enumDs (consM (slM slD (rdM 0) (somePt (rdM 1)) (somePt (M.pure (PyData.int 63)))) nilM)) (p := .tp [.nm 3, .nm 4])
    (b := seqM (asM (Pat.nm 5) (bin modD (un1 intD (rdM 3)) (rdM 1))) (seqM (setXM 2 (vrM 5) (bin addU (bin ixU (rdM 2) (rdM 5)) (bin mulD (rdM 4) (bin addU (rdM 3) (M.pure (PyData.int 2)))))) nxM))
    (idx 0 ys) (fun x => PyData.tuple [.int (x.1 : Nat), .int x.2]) (fun ws ρ => (∃ c : Int, ρ 2 = .mu (.list [.int c]) ∧ c.natAbs < 2 ^ 1048577 + ws.length * (2 ^ 1048577 * 128)) ∧ ρ 1 = .im (.int 1) ∧ notIo (ρ 3) = true ∧ notIo (ρ 4) = true ∧ notIo (ρ 5) = true)
    (ρ := (entE [.bo, .dt] [.list (ns.map .int), .int 1]).put 2 (.mu (.list [.int c0]))) (ρ0 := (entE [.bo, .dt] [.list (ns.map .int), .int 1]).put 2 (.mu (.list [.int c0]))) (by simp [s2, enumDs, ee]) ⟨⟨c0, rfl, by simpa using hb0⟩, rfl, rfl, rfl, rfl⟩ (fun ws x us ρ e ⟨⟨c, h2, hb⟩, h1, h3, h4, h5⟩ => by
      obtain ⟨x1, x2, x3⟩ := idx_cut 0 ys e
      have xs := hz x.2 (e2 x.2 x2)
      have m1 : modD (.int (x.1 : Nat)) (.int 1) = some (.int 0) := by
        rw [mod_int (by omega)]
        congr 2
        rw [Int.fmod_eq_emod_of_nonneg _ (by omega)]
        omega
      have mo : mulOk x.2 ((x.1 : Nat) + 2) = true := mul_ok (n := 1048577) (m := 8) xs (by omega) (by omega)
      have ss := set_list' (i := 2) (mk := vrM 5) (m := bin addU (bin ixU (rdM 2) (rdM 5)) (bin mulD (rdM 4) (bin addU (rdM 3) (M.pure (PyData.int 2))))) (ρ := ((ρ.put 3 (.im (.int (x.1 : Nat)))).put 4 (.im (.int x.2))).put 5 (.im (.int 0))) (ρ1 := ((ρ.put 3 (.im (.int (x.1 : Nat)))).put 4 (.im (.int x.2))).put 5 (.im (.int 0))) (ρ2 := ((ρ.put 3 (.im (.int (x.1 : Nat)))).put 4 (.im (.int x.2))).put 5 (.im (.int 0)))
        (d := .int (c + x.2 * ((x.1 : Nat) + 2))) (ds := [.int c]) (ds2 := [.int c]) (j := 0) (n := 0) (by simp [h2, mul_int mo]) (by simp [h2]) (by simp) (by simp [h2]) (by simp [ixN])
      refine ⟨_, _, by simp [h3, h4]; rfl, by simp [h1, h5, m1, ss]; rfl, ⟨c + x.2 * ((x.1 : Nat) + 2), by simp [h2], ?_⟩, by simp [h1]⟩
      have t1 := Int.natAbs_add_le c (x.2 * ((x.1 : Nat) + 2))
      rw [Int.natAbs_mul] at t1
      have t2 : x.2.natAbs * ((x.1 : Nat) + 2 : Int).natAbs ≤ 2 ^ 1048577 * 128 := Nat.mul_le_mul (Nat.le_of_lt xs) (by omega)
      rw [List.length_append, List.length_singleton, Nat.add_mul, Nat.one_mul]
      generalize 2 ^ 1048577 * 128 = A at *
      generalize 2 ^ 1048577 = B at *
      omega)
  refine ⟨c, ?_, ?_⟩
  · have r : f32 T (entE [.bo, .dt] [.list (ns.map .int), .int 1]) = .ok (.rt (.list [.int c])) (ρ'.put 2 .un) := by
      unfold f32
      rw [ev_seq, hc0, ob_ok]
      simp [e, h2]
    rw [fn_rt r]
    rfl
  · rw [idx_len] at hb
    have l : ys.length ≤ 63 := by omega
    have : 2 ^ 1048577 + ys.length * (2 ^ 1048577 * 128) ≤ 2 ^ 1048577 * 2 ^ 14 := by
      have : ys.length * (2 ^ 1048577 * 128) ≤ 63 * (2 ^ 1048577 * 128) := Nat.mul_le_mul_right _ l
      generalize 2 ^ 1048577 = B at *
      omega
    rw [← Nat.pow_add] at this
    exact Nat.lt_of_lt_of_le hb (Nat.le_trans this (Nat.pow_le_pow_right (by omega) (by omega)))
end Rf
end
section
set_option Elab.async false
set_option linter.all false
set_option maxRecDepth 100000
set_option maxHeartbeats 2000000
/-! S15: drawn WORDS and pairs. -/
namespace Rf
open PySem PySem.Spec L2
theorem Tin.mono {t : D} {n m : Nat} (h : Tin t n) (k : n ≤ m) : Tin t m := by
  obtain ⟨a, b, c, h1, h2, h3, h4, h5, h6, h7⟩ := h
  exact ⟨a, b, c, h1, h2, h3, h4, h5, h6, by omega⟩
theorem put_put {ρ : Env} {i : Nat} {s s' : Sl} : (ρ.put i s).put i s' = ρ.put i s' := by
  funext j
  show (if j = i then s' else if j = i then s else ρ j) = if j = i then s' else ρ j
  split <;> rfl
theorem rest_put {js : List Nat} {ρ ρ2 : Env} {i : Nat} {s : Sl} (a : Agr js ρ2 (ρ.put i s)) (hi : js.contains i = false) : restE ρ js ρ2 = ρ.put i s := by
  funext j
  show (bif js.contains j then ρ j else ρ2 j) = if j = i then s else ρ j
  cases h : js.contains j with
  | true =>
    have : j ≠ i := fun z => by rw [z, hi] at h; cases h
    rw [if_neg this]
    rfl
  | false => exact a j h
theorem agr_up {js : List Nat} {ρ ρ2 : Env} {i : Nat} {d : D} (a : Agr js ρ2 ρ) (hi : js.contains i = false) : Agr js (upM ρ2 i d) (ρ.put i ((ρ i).withV d)) := fun j h => by
  show (if j = i then (ρ2 i).withV d else ρ2 j) = if j = i then (ρ i).withV d else ρ j
  by_cases e : j = i
  · rw [if_pos e, if_pos e, a i hi]
  · rw [if_neg e, if_neg e, a j h]
theorem agr_both {js : List Nat} {ρ ρ2 : Env} {i : Nat} {s : Sl} (a : Agr js ρ2 ρ) : Agr js (ρ2.put i s) (ρ.put i s) := fun j h => by
  show (if j = i then s else ρ2 j) = if j = i then s else ρ j
  split
  · rfl
  · exact a j h
theorem lc_st {α β : Type} {K : Nat} {js : List Nat} {step : D → M (List D)} {enc : α → D} {f : β → D} {I : Nat → Env → Prop} {P : α → β → Prop} : ∀ (xs : List α) (k : Nat) {ρ : Env}, k + xs.length ≤ K → I k ρ →
    (∀ x ∈ xs, ∀ k ρ, k < K → I k ρ → ∃ y ρ2, step (enc x) (wipeE ρ js) = .ok [f y] ρ2 ∧ P x y ∧ I (k + 1) (restE ρ js ρ2)) → ∃ (zs : List (α × β)) (ρ' : Env), zs.map (·.1) = xs ∧ (∀ z ∈ zs, P z.1 z.2) ∧ lcL js step (xs.map enc) ρ = .ok (zs.map fun z => f z.2) ρ' ∧ I (k + xs.length) ρ'
  | [], k, ρ, _, h, _ => ⟨[], ρ, rfl, fun _ h => (by cases h), rfl, h⟩
  | x :: xs, k, ρ, hk, h, hs => by
    rw [List.length_cons] at hk
    obtain ⟨y, ρ2, e1, p, i1⟩ := hs x List.mem_cons_self k ρ (by omega) h
    obtain ⟨zs, ρ', m, q, e2, i2⟩ := lc_st xs (k + 1) (by omega) i1 fun x hx => hs x (List.mem_cons_of_mem _ hx)
    refine ⟨(x, y) :: zs, ρ', by rw [List.map_cons, m], fun z hz => ?_, ?_, by rw [List.length_cons, show k + (xs.length + 1) = k + 1 + xs.length by omega]; exact i2⟩
    · rcases List.mem_cons.mp hz with rfl | hz
      · exact p
      · exact q z hz
    · show (step (enc x) (wipeE ρ js)).bind _ = _
      rw [e1, ob_ok, e2]
      rfl
/-- a comprehension whose turns draw -/
theorem comp_st {α β : Type} {src : M (List D)} {js : List Nat} {step : D → M (List D)} {ρ ρ1 : Env} (xs : List α) (enc : α → D) (f : β → D) (I : Nat → Env → Prop) (P : α → β → Prop) (h1 : src ρ = .ok (xs.map enc) ρ1) (hn : nonM ρ1 js = true) (hl : xs.length ≤ 16777216) (h0 : I 0 ρ1)
    (hs : ∀ x ∈ xs, ∀ k ρ, k < xs.length → I k ρ → ∃ y ρ2, step (enc x) (wipeE ρ js) = .ok [f y] ρ2 ∧ P x y ∧ I (k + 1) (restE ρ js ρ2)) :
    ∃ (zs : List (α × β)) (ρ' : Env), zs.map (·.1) = xs ∧ (∀ z ∈ zs, P z.1 z.2) ∧ compM src js step ρ = .ok (.list (zs.map fun z => f z.2)) ρ' ∧ I xs.length ρ' := by
  obtain ⟨zs, ρ', m, q, e, i⟩ := lc_st (f := f) (P := P) xs 0 (by omega) h0 hs
  refine ⟨zs, ρ', m, q, ?_, by rw [Nat.zero_add] at i; exact i⟩
  have hz : zs.length = xs.length := by rw [← m, List.length_map]
  have hc : clM src js step ρ = .ok (zs.map fun z => f z.2) ρ' := by
    simp only [clM, noEx, h1, ob_ok, hn, cond_true, e]
  unfold compM
  rw [ev_bind, hc, ob_ok, List.length_map, szOk_of (by omega)]
  rfl
/-- a draw by a call: slot i holds the box -/
theorem draw_run {T : Nat → Fn} {ρ : Env} {i : Nat} {m : M D} {s : Sl} {t t' : D} {d k : Int} (hs : ρ i = s) (hv : s.val = some t) (hm : m ρ = .ok (.int k) ρ) (c : T 31 [t, .int k] = .ok (.int d) [t']) : callM (T 31) [Md.io, Md.dt] [Ar.nm i, Ar.dt m] ρ = .ok (.int d) (ρ.put i (s.withV t')) := by
  have se : sees ρ i = true := sees_of hs (fun z => by rw [z] at hv; cases hv)
  simp [se, hm, hs, hv, ocV_ok c]
  unfold upM
  rw [hs]
def InW (k : Nat) (w : Q.W) : Prop := ∀ i ∈ w, 0 ≤ i ∧ i < k
def Ok44 (T : Nat → Fn) : Prop := ∀ (t : D) (n k most : Nat), Tin t n → n + 20 ≤ 1000000 → 0 < k → k ≤ 900 → most ≤ 10 → ∃ (w : Q.W) (t' : D), T 44 [t, .int (k : Nat), .int (most : Nat)] = .ok (eW w) [t'] ∧ w.length ≤ most ∧ InW k w ∧ Tin t' (n + 12)
theorem ok44 {T : Nat → Fn} (h31 : Ok31 T) : Ok44 (S0.up T) := fun t n k most ht hn k0 k1 hm => by
  rw [u44]
  obtain ⟨d, t1, c1, d0, d1, ht1⟩ := h31 t n ((most : Nat) + 1) ht (by omega) (by omega) (by omega)
  obtain ⟨dn, rfl⟩ : ∃ m : Nat, d = m := ⟨d.toNat, by omega⟩
  obtain ⟨zs, ρ', z1, z2, e, t2, i1, i2⟩ := comp_st (β := Int) (src := overM rng1D (consM (callM (T 31) [Md.io, Md.dt] [Ar.nm 0, Ar.dt (bin addU (rdM 2) (M.pure (PyData.int 1)))]) nilM)) (js := [3]) (step := stepM (Pat.nm 3) yesM (elM (callM (T 31) [Md.io, Md.dt] [Ar.nm 0, Ar.dt (vrM 1)])))
    (ρ := entE [.io, .dt, .dt] [t, .int (k : Nat), .int (most : Nat)]) (ρ1 := (entE [.io, .dt, .dt] [t, .int (k : Nat), .int (most : Nat)]).put 0 (.io t1)) (List.range dn) (fun i => PyData.int (i : Nat)) PyData.int
    (fun j ρ => ∃ t', Tin t' (n + 1 + j) ∧ ρ = (entE [.io, .dt, .dt] [t, .int (k : Nat), .int (most : Nat)]).put 0 (.io t')) (fun _ y => 0 ≤ y ∧ y < k) (by
      have dr := draw_run (ρ := entE [.io, .dt, .dt] [t, .int (k : Nat), .int (most : Nat)]) (i := 0) (m := bin addU (rdM 2) (M.pure (PyData.int 1))) (s := .io t) rfl rfl (by simp) c1
      rw [ev_over, ev_cons, dr]
      simp [rng_nat dn (by omega)]) rfl (by simp; omega) ⟨t1, ht1.mono (by omega), rfl⟩ (fun x hx j ρ hj ⟨t', ht', er⟩ => by
        rw [List.length_range] at hj
        obtain ⟨d', t2, c2, q0, q1, ht2⟩ := h31 t' (n + 1 + j) (k : Nat) ht' (by omega) (by omega) (by omega)
        have r0 : ρ 0 = .io t' := by rw [er]; rfl
        have r1 : ρ 1 = .im (.int (k : Nat)) := by rw [er]; rfl
        have dr := draw_run (ρ := (wipeE ρ [3]).put 3 (.im (.int (x : Nat)))) (i := 0) (m := vrM 1) (s := .io t') (by simp [r0]) rfl (by simp [r1]) c2
        refine ⟨d', _, by rw [ev_step]; simp [-ev_call, dr]; rfl, ⟨q0, q1⟩, t2, ht2.mono (by omega), ?_⟩
        rw [rest_put (i := 0) (s := .io t2)]
        · rw [er, put_put]
        · exact agr_both (agr_put agr_wipe rfl)
        · rfl)
  rw [List.length_range] at i1
  have hl : zs.length = dn := by have := congrArg List.length z1; rwa [List.length_map, List.length_range] at this
  refine ⟨zs.map (·.2), t2, ?_, by rw [List.length_map]; omega, fun i hi => ?_, i1.mono (by omega)⟩
  · have r : f44 T (entE [.io, .dt, .dt] [t, .int (k : Nat), .int (most : Nat)]) = .ok (.rt (eW (zs.map (·.2)))) ρ' := by
      unfold f44
      rw [ev_seq, ev_rt, ev_un1, e]
      simp [eW, Function.comp_def]
    rw [fn_rt r, i2]
    rfl
  · obtain ⟨z, hz, rfl⟩ := List.mem_map.mp hi
    exact z2 z hz
/-! ### one of them -/
theorem at_nat {α : Type} (xs : List α) (i : Nat) (h : i < xs.length) : atI xs (i : Int) = some xs[i] := by
  unfold atI ixN
  rw [if_pos (by omega), if_pos (by omega)]
  simp [h]
def Ok33 (T : Nat → Fn) : Prop := ∀ (t : D) (n : Nat) (ds : List D), Tin t n → n ≤ 1000000 → ds ≠ [] → ds.length ≤ 1000 → ∃ (x : D) (t' : D), T 33 [t, .list ds] = .ok x [t'] ∧ x ∈ ds ∧ Tin t' (n + 1)
theorem ok33 {T : Nat → Fn} (h31 : Ok31 T) : Ok33 (S0.up T) := fun t n ds ht hn h0 hl => by
  rw [u33]
  have hp : 0 < ds.length := List.length_pos_iff.mpr h0
  obtain ⟨d, t1, c1, d0, d1, ht1⟩ := h31 t n (ds.length : Nat) ht hn (by omega) (by omega)
  obtain ⟨i, rfl⟩ : ∃ m : Nat, d = m := ⟨d.toNat, by omega⟩
  have hi : i < ds.length := by omega
  refine ⟨ds[i], t1, ?_, List.getElem_mem hi, ht1⟩
  have dr := draw_run (ρ := entE [.io, .bo] [t, .list ds]) (i := 0) (m := un1 lenD (rdM 1)) (s := .io t) rfl rfl (by simp) c1
  have ix : ixU (.list ds) (.int (i : Nat)) = some ds[i] := by
    show (Option.orElse (atI ds (i : Int)) fun _ => _) = _
    rw [at_nat ds i hi]
    rfl
  have r : f33 T (entE [.io, .bo] [t, .list ds]) = .ok (.rt ds[i]) ((entE [.io, .bo] [t, .list ds]).put 0 (.io t1)) := by
    unfold f33
    rw [ev_seq, ev_rt, ev_bin, ev_wv]
    simp [-ev_call, dr, ix]
  rw [fn_rt r]
  rfl
/-! ### pairs -/
def PrOk (k : Nat) (ps : Q.Mx) : Prop := ∀ p ∈ ps, p.1.length ≤ 3 ∧ InW k p.1 ∧ Q.Sz 2 p.2
def Ok45 (T : Nat → Fn) : Prop := ∀ (t : D) (n k many : Nat), Tin t n → n + 400 ≤ 1000000 → 0 < k → k ≤ 900 → many ≤ 10 → ∃ (ps : Q.Mx) (t' : D), T 45 [t, .int (k : Nat), .int (many : Nat)] = .ok (.list (ps.map eP)) [t'] ∧ ps.length ≤ many ∧ PrOk k ps ∧ Tin t' (n + 400)
theorem shaped_Ps (ps : Q.Mx) : SeqAt.shaped (.list (ps.map eP)) = true := by
  have a : ∀ l : Q.Mx, PyData.canLayAll0 (l.map eP) = true ∧ PyData.depthAll (l.map eP) ≤ 2 := by
    intro l
    induction l with
    | nil => exact ⟨rfl, by show 0 ≤ 2; omega⟩
    | cons p l ih =>
      refine ⟨?_, ?_⟩
      · show ((PyData.canLayAll0 (p.1.map .int) && ((true && (true && true)) && true)) && PyData.canLayAll0 (l.map eP)) = true
        rw [lay_ints, ih.1]
        rfl
      · show max (max (eW p.1).depth (max (eF p.2).depth 0) + 1) (PyData.depthAll (l.map eP)) ≤ 2
        have e2 : (eF p.2).depth = 1 := by rfl
        rw [depth_W, e2]
        have := ih.2
        omega
  unfold SeqAt.shaped
  rw [Bool.and_eq_true]
  refine ⟨(a ps).1, decide_eq_true ?_⟩
  show PyData.depthAll (ps.map eP) + 1 ≤ 64
  have := (a ps).2
  omega
theorem eq_nil (ps : Q.Mx) : eqD (.list (ps.map eP)) (.list []) = some (.bool ps.isEmpty) := by
  unfold eqD
  rw [shaped_Ps]
  cases ps <;> rfl
end Rf
end
section
set_option Elab.async false
set_option linter.all false
set_option maxRecDepth 100000
set_option maxHeartbeats 2000000
/-! S16: drawn pairs; MIXES with one thing otherwise. -/
namespace Rf
open PySem PySem.Spec L2
abbrev wordM (T : Nat → Fn) : M D := iteM (orT (tstM (bin eqD (rdM 3) (lstM nilM))) (tstM (bin gtD (callM (T 31) [Md.io, Md.dt] [Ar.nm 0, Ar.dt (M.pure (PyData.int 3))]) (M.pure (PyData.int 0))))) (callM (T 44) [Md.io, Md.dt, Md.dt] [Ar.nm 0, Ar.dt (vrM 1), Ar.dt (M.pure (PyData.int 3))]) (bin ixU (callM (T 33) [Md.io, Md.bo] [Ar.nm 0, Ar.nm 3]) (M.pure (PyData.int 0)))
theorem call44 {T : Nat → Fn} {ρ : Env} {t t1 : D} {k most : Nat} {w : Q.W} {a b : M D} (h0 : ρ 0 = .io t) (ha : a ρ = .ok (.int (k : Nat)) ρ) (hb : b ρ = .ok (.int (most : Nat)) ρ) (c : T 44 [t, .int (k : Nat), .int (most : Nat)] = .ok (eW w) [t1]) : callM (T 44) [Md.io, Md.dt, Md.dt] [Ar.nm 0, Ar.dt a, Ar.dt b] ρ = .ok (eW w) (ρ.put 0 (.io t1)) := by
  have se : sees ρ 0 = true := sees_of h0 (by simp)
  simp [se, ha, hb, h0, ocV_ok c]
  unfold upM
  rw [h0]
  rfl
theorem word_run {T : Nat → Fn} (h31 : Ok31 T) (h33 : Ok33 T) (h44 : Ok44 T) {ρ : Env} {t : D} {m k : Nat} {ps : Q.Mx} (h0 : ρ 0 = .io t) (h1 : ρ 1 = .im (.int (k : Nat))) (h3 : ρ 3 = .mu (.list (ps.map eP))) (ht : Tin t m) (hm : m + 100 ≤ 1000000) (k0 : 0 < k) (k1 : k ≤ 900) (hp : PrOk k ps) (hl : ps.length ≤ 1000) :
    ∃ (w : Q.W) (t1 : D), wordM T ρ = .ok (eW w) (ρ.put 0 (.io t1)) ∧ w.length ≤ 3 ∧ InW k w ∧ Tin t1 (m + 13) := by
  cases ps with
  | nil =>
    obtain ⟨w, t1, c, w1, w2, ht1⟩ := h44 t m k 3 ht (by omega) k0 k1 (by omega)
    refine ⟨w, t1, ?_, w1, w2, ht1.mono (by omega)⟩
    have cc := call44 (ρ := ρ) (a := vrM 1) (b := M.pure (PyData.int 3)) h0 (by simp [h1]) (by simp) c
    have e : eqD (.list []) (.list []) = some (.bool true) := eq_nil []
    simp [wordM, h3, szOk, e, cc, -ev_call]
  | cons p ps =>
    have e : eqD (.list (eP p :: ps.map eP)) (.list []) = some (.bool false) := eq_nil (p :: ps)
    obtain ⟨d, t1, c1, d0, d1, ht1⟩ := h31 t m 3 ht (by omega) (by omega) (by omega)
    have dr := draw_run (ρ := ρ) (i := 0) (m := M.pure (PyData.int 3)) (s := .io t) h0 rfl (by simp) c1
    by_cases hd : 0 < d
    · obtain ⟨w, t2, c, w1, w2, ht2⟩ := h44 t1 (m + 1) k 3 ht1 (by omega) k0 k1 (by omega)
      refine ⟨w, t2, ?_, w1, w2, ht2.mono (by omega)⟩
      have cc := call44 (ρ := ρ.put 0 (.io t1)) (a := vrM 1) (b := M.pure (PyData.int 3)) rfl (by simp [h1]) (by simp) c
      rw [put_put] at cc
      simp [wordM, h3, szOk, e, dr, hd, cc, -ev_call]
    · obtain ⟨x, t2, c, hx, ht2⟩ := h33 t1 (m + 1) ((p :: ps).map eP) ht1 (by omega) (by simp) (by simpa using hl)
      obtain ⟨r, hr, rfl⟩ := List.mem_map.mp hx
      refine ⟨r.1, t2, ?_, (hp r hr).1, (hp r hr).2.1, ht2.mono (by omega)⟩
      have se : sees ρ 3 = true := sees_of h3 (by simp)
      have cc : callM (T 33) [Md.io, Md.bo] [Ar.nm 0, Ar.nm 3] (ρ.put 0 (.io t1)) = .ok (eP r) (ρ.put 0 (.io t2)) := by
        have se0 : sees (ρ.put 0 (.io t1)) 0 = true := sees_of (s := .io t1) rfl (by simp)
        have se3 : sees (ρ.put 0 (.io t1)) 3 = true := sees_of (s := ρ 3) rfl (by rw [h3]; simp)
        have c' := c
        rw [List.map_cons] at c'
        simp [se0, se3, h3, ocV_ok c']
        unfold upM
        rw [show (ρ.put 0 (.io t1)) 0 = .io t1 from rfl, withV_io, put_put]
      have ip : ixU (eP r) (.int 0) = some (eW r.1) := by unfold eP; simp
      simp [wordM, h3, szOk, e, dr, hd, cc, ip, -ev_call]
abbrev fracM (T : Nat → Fn) : M D := callM (T 37) [Md.dt, Md.dt] [Ar.dt (callM (T 33) [Md.io, Md.bo] [Ar.nm 0, Ar.dt (lstM (consM (M.pure (PyData.int 1)) (consM (negM (M.pure (PyData.int 1))) (consM (M.pure (PyData.int 2)) (consM (negM (M.pure (PyData.int 2))) (consM (M.pure (PyData.int 0)) (consM (M.pure (PyData.int 3)) nilM)))))))]), Ar.dt (bin addU (M.pure (PyData.int 1)) (callM (T 31) [Md.io, Md.dt] [Ar.nm 0, Ar.dt (M.pure (PyData.int 3))]))]
theorem frac_run {T : Nat → Fn} (h31 : Ok31 T) (h33 : Ok33 T) (h37 : Ok37 T) {ρ : Env} {t : D} {m : Nat} (h0 : ρ 0 = .io t) (ht : Tin t m) (hm : m + 100 ≤ 1000000) : ∃ (q : Rat) (t1 : D), fracM T ρ = .ok (eF q) (ρ.put 0 (.io t1)) ∧ Q.Sz 2 q ∧ Tin t1 (m + 2) := by
  obtain ⟨x, t1, c, hx, ht1⟩ := h33 t m [.int 1, .int (-1), .int 2, .int (-2), .int 0, .int 3] ht (by omega) (by simp) (by simp)
  obtain ⟨v, rfl, hv⟩ : ∃ v : Int, x = .int v ∧ v.natAbs < 2 ^ 2 := by
    simp only [List.mem_cons, List.not_mem_nil, or_false] at hx
    rcases hx with rfl | rfl | rfl | rfl | rfl | rfl
    · exact ⟨_, rfl, by decide⟩
    · exact ⟨_, rfl, by decide⟩
    · exact ⟨_, rfl, by decide⟩
    · exact ⟨_, rfl, by decide⟩
    · exact ⟨_, rfl, by decide⟩
    · exact ⟨_, rfl, by decide⟩
  obtain ⟨d, t2, c2, d0, d1, ht2⟩ := h31 t1 (m + 1) 3 ht1 (by omega) (by omega) (by omega)
  have b0 : (1 + d) ≠ 0 := by omega
  have bs : (1 + d).natAbs < 2 ^ 2 := by omega
  have c3 := h37 v (1 + d) b0 (Nat.lt_of_lt_of_le hv (Nat.pow_le_pow_right (by omega) (by omega))) (Nat.lt_of_lt_of_le bs (Nat.pow_le_pow_right (by omega) (by omega)))
  refine ⟨Rat.divInt v (1 + d), t2, ?_, Q.sz_divInt b0 hv bs, ht2⟩
  have se0 : sees ρ 0 = true := sees_of h0 (by simp)
  have cc : callM (T 33) [Md.io, Md.bo] [Ar.nm 0, Ar.dt (lstM (consM (M.pure (PyData.int 1)) (consM (negM (M.pure (PyData.int 1))) (consM (M.pure (PyData.int 2)) (consM (negM (M.pure (PyData.int 2))) (consM (M.pure (PyData.int 0)) (consM (M.pure (PyData.int 3)) nilM)))))))] ρ = .ok (.int v) (ρ.put 0 (.io t1)) := by
    simp [se0, h0, szOk, ocV_ok c]
    unfold upM
    rw [h0]
    rfl
  have dr := draw_run (ρ := ρ.put 0 (.io t1)) (i := 0) (m := M.pure (PyData.int 3)) (s := .io t1) rfl rfl (by simp) c2
  rw [put_put] at dr
  unfold fracM
  rw [ev_call, arM_dt, cc]
  simp [-ev_call, dr, ocV_ok c3]
theorem ok45 {T : Nat → Fn} (h31 : Ok31 T) (h33 : Ok33 T) (h37 : Ok37 T) (h44 : Ok44 T) : Ok45 (S0.up T) := fun t n k many ht hn k0 k1 hm => by
  rw [u45]
  obtain ⟨d, t1, c1, d0, d1, ht1⟩ := h31 t n ((many : Nat) + 1) ht (by omega) (by omega) (by omega)
  obtain ⟨dn, rfl⟩ : ∃ m : Nat, d = m := ⟨d.toNat, by omega⟩
  have dr := draw_run (ρ := (entE [.io, .dt, .dt] [t, .int (k : Nat), .int (many : Nat)]).put 3 (.mu (.list []))) (i := 0) (m := bin addU (rdM 2) (M.pure (PyData.int 1))) (s := .io t) rfl rfl (by simp) c1
  obtain ⟨ρ', e, t2, ps, r0, ht2, r3, rl, rp, _⟩ := for_run (src := overM rng1D (consM (callM (T 31) [Md.io, Md.dt] [Ar.nm 0, Ar.dt (bin addU (rdM 2) (M.pure (PyData.int 1)))]) nilM)) (p := .nm 4)
    (b := seqM (asM (Pat.nm 5) (wordM T)) (seqM (drM (appM 3 (tupM (consM (vrM 5) (consM (fracM T) nilM))))) nxM)) (List.range dn) (fun i => PyData.int (i : Nat))
    (fun ws ρ => ∃ (t' : D) (ps : Q.Mx), ρ 0 = .io t' ∧ Tin t' (n + 1 + ws.length * 20) ∧ ρ 3 = .mu (.list (ps.map eP)) ∧ ps.length = ws.length ∧ PrOk k ps ∧ ρ 1 = .im (.int (k : Nat)) ∧ notIo (ρ 4) = true ∧ notIo (ρ 5) = true)
    (ρ := (entE [.io, .dt, .dt] [t, .int (k : Nat), .int (many : Nat)]).put 3 (.mu (.list []))) (ρ0 := ((entE [.io, .dt, .dt] [t, .int (k : Nat), .int (many : Nat)]).put 3 (.mu (.list []))).put 0 (.io t1))
    (by simp [-ev_call, dr, rng_nat dn (by omega)]) ⟨t1, [], rfl, ht1.mono (by omega), rfl, rfl, fun _ h => (by cases h), rfl, rfl, rfl⟩ (fun ws x us ρ e ⟨t', ps, h0, ht', h3, hl, hp, h1, h4, h5⟩ => by
      have wl := range_cut e
      obtain ⟨w, ta, ea, w1, w2, hta⟩ := word_run h31 h33 h44 (ρ := ρ.put 4 (.im (.int (x : Nat)))) h0 h1 h3 ht' (by omega) k0 k1 hp (by omega)
      obtain ⟨q, tb, eb, q1, htb⟩ := frac_run h31 h33 h37 (ρ := ((ρ.put 4 (.im (.int (x : Nat)))).put 0 (.io ta)).put 5 (.im (eW w))) rfl hta (by omega)
      have ap := app_run (i := 3) (m := tupM (consM (vrM 5) (consM (fracM T) nilM))) (ρ := ((ρ.put 4 (.im (.int (x : Nat)))).put 0 (.io ta)).put 5 (.im (eW w))) (ρ1 := (((ρ.put 4 (.im (.int (x : Nat)))).put 0 (.io ta)).put 5 (.im (eW w))).put 0 (.io tb)) (xs := ps.map eP) (ys := ps.map eP) (d := eP (w, q)) (by simp [h3]) (by simp [-ev_call, eb, szOk]; rfl) (by simp [h3]) (by rw [List.length_map]; omega)
      refine ⟨_, _, by simp [h4]; rfl, by rw [ev_seq, ev_as, ea]; simp [h5, ap, -ev_call]; rfl, tb, ps ++ [(w, q)], by simp, htb.mono (by rw [List.length_append, List.length_singleton]; omega), by simp, by simp [hl], ?_, by simp [h1]⟩
      intro p hp'
      rcases List.mem_append.mp hp' with h | h
      · exact hp p h
      · rw [List.mem_singleton.mp h]
        exact ⟨w1, w2, q1⟩)
  rw [List.length_range] at ht2 rl
  refine ⟨ps, t2, ?_, by omega, rp, ht2.mono (by omega)⟩
  have r : f45 T (entE [.io, .dt, .dt] [t, .int (k : Nat), .int (many : Nat)]) = .ok (.rt (.list (ps.map eP))) (ρ'.put 3 .un) := by
    simp [f45, szOk, e, r3, -ev_call]
  rw [fn_rt r]
  simp [r0]
end Rf
end
section
set_option Elab.async false
set_option linter.all false
set_option maxRecDepth 100000
set_option maxHeartbeats 4000000
/-! S17: MIXES with one thing otherwise. -/
namespace Rf
open PySem PySem.Spec L2
theorem shaped_M (ps : Q.Mx) : SeqAt.shaped (eM ps) = true := shaped_Ps ps
theorem ne_M0 (ps : Q.Mx) : neD (eM ps) (.tuple []) = some (.bool (!ps.isEmpty)) := by
  unfold neD
  rw [shaped_M]
  cases ps <;> rfl
theorem eq_M0 (ps : Q.Mx) : eqD (eM ps) (.tuple []) = some (.bool ps.isEmpty) := by
  unfold eqD
  rw [shaped_M]
  cases ps <;> rfl
theorem ix_last (xs : List D) (x : D) : ixU (.tuple (xs ++ [x])) (.int (-1)) = some x := by
  have e : ixU (.tuple (xs ++ [x])) (.int (-1)) = (atI (xs ++ [x]) (-1)).orElse fun _ => ixK (.tuple (xs ++ [x])) (.int (-1)) := rfl
  have l : (xs ++ [x]).length = xs.length + 1 := by simp
  have a : atI (xs ++ [x]) (-1) = some x := by
    unfold atI ixN
    rw [l, if_neg (by omega), if_pos (by omega)]
    have : ((-1 : Int) + ((xs.length + 1 : Nat) : Int)).toNat = xs.length := by omega
    rw [this]
    simp
  rw [e, a]
  rfl
theorem cut_take {α : Type} (f : α → D) (xs : List α) (k : Nat) (h : k ≤ xs.length) : cutDs (xs.map f) none (some (k : Int)) = (xs.take k).map f := by
  unfold cutDs
  rw [HT.sIx_none, HT.sIx_nat, List.length_map, Nat.min_eq_left h]
  simp
theorem sl_take (a : Q.Mx) (p : Q.W × Rat) : slD (eM (a ++ [p])) none (some (a.length : Int)) = some (.tuple (a.map eP)) := by
  show some (PyData.tuple (cutDs _ _ _)) = _
  rw [cut_take eP (a ++ [p]) a.length (by simp)]
  simp
/-- such a thing is not plain -/
def Wrong (k : Int) (x : D) : Prop := good 6 x = true ∧ (badM k x = true ∨ ∃ m : Q.Mx, x = eM m ∧ Ln m ∧ m.length ≤ 1000000 ∧ (∀ p ∈ m, p.2 ≠ 0 ∧ ∀ i ∈ p.1, 0 ≤ i ∧ i < k) ∧ risesB (Q.keys m) = false)
theorem ltW_irr (w : Q.W) : ltW w w = false := by
  unfold ltW
  simp [List.lt_irrefl]
theorem all_snoc2 (a : List Q.W) (u v : Q.W) : risesB (a ++ [u, v]) = (risesB (a ++ [u]) && ltW u v) := by
  unfold risesB
  induction a with
  | nil => simp
  | cons x a ih =>
    cases a with
    | nil => simp
    | cons y a =>
      simp only [List.cons_append, List.drop_one, List.tail_cons, List.zip_cons_cons, List.all_cons] at ih ⊢
      rw [ih, Bool.and_assoc]
theorem bad_two {k : Int} {xs : List D} {x : D} (h : x ∈ xs) (hx : tupB 2 x = false) : badM k (.tuple xs) = true := by
  show (!(xs.all (tupB 2)) || !(xs.all (pairB k))) = true
  have : xs.all (tupB 2) = false := by
    rw [List.all_eq_false]
    exact ⟨x, h, by rw [hx]; decide⟩
  rw [this]
  rfl
theorem bad_pair {k : Int} {xs : List D} {x : D} (h : x ∈ xs) (hx : pairB k x = false) : badM k (.tuple xs) = true := by
  show (!(xs.all (tupB 2)) || !(xs.all (pairB k))) = true
  have : xs.all (pairB k) = false := by
    rw [List.all_eq_false]
    exact ⟨x, h, by rw [hx]; decide⟩
  rw [this]
  simp
theorem pair_word {k : Int} {a b : D} (h : wordB k a = false) : pairB k (.tuple [a, b]) = false := by
  show (wordB k a && _) = false
  rw [h]
  rfl
theorem pair_frac {k : Int} {a b : D} (h : fracB b = false) : pairB k (.tuple [a, b]) = false := by
  show (wordB k a && (fracB b && _)) = false
  rw [h]
  simp
theorem pair_zero {k : Int} {a b : D} (h : PyData.eqv b (.tuple [.int 0, .int 1]) = true) : pairB k (.tuple [a, b]) = false := by
  show (wordB k a && (fracB b && !(PyData.eqv b (.tuple [.int 0, .int 1])))) = false
  rw [h]
  simp
theorem word_out {k : Int} {xs : List D} {x : D} (h : x ∈ xs) (hx : letB k x = false) : wordB k (.tuple xs) = false := by
  show xs.all (letB k) = false
  rw [List.all_eq_false]
  exact ⟨x, h, by rw [hx]; decide⟩
theorem let_big {k i : Int} (h : k ≤ i) : letB k (.int i) = false := by
  show (decide (0 ≤ i) && decide (i < k)) = false
  rw [decide_eq_false (by omega : ¬ i < k)]
  simp
theorem let_neg {k : Int} : letB k (.int (-1)) = false := rfl
theorem good_app {a : Q.Mx} (h : Ln a) (hl : a.length ≤ 1000000) {x : D} (hx : good 5 x = true) : good 6 (.tuple (a.map eP ++ [x])) = true := good_tuple (n := 5) (by rw [List.length_append, List.length_map]; simp; omega) fun y hy => by
  rcases List.mem_append.mp hy with h' | h'
  · exact good_up (good_Ps h y h') (by omega)
  · rw [List.mem_singleton.mp h']
    exact hx
theorem good_two {n : Nat} {a b : D} (ha : good n a = true) (hb : good n b = true) : good (n + 1) (.tuple [a, b]) = true := good_tuple (by simp) fun x hx => by
  simp only [List.mem_cons, List.not_mem_nil, or_false] at hx
  rcases hx with rfl | rfl
  · exact ha
  · exact hb
def Ok46 (T : Nat → Fn) : Prop := ∀ (t : D) (k : Nat) (one : Q.Mx), Ln one → one.length ≤ 1000 → (∀ p ∈ one, p.1.length ≤ 1000) → k ≤ 9 → Q.IsCan one → (∀ p ∈ one, InW k p.1) → ∃ wr : List D, T 46 [t, eM one] = .ok (.list wr) [t] ∧ wr.length ≤ 12 ∧ ∀ x ∈ wr, Wrong k x
theorem ok46 (T : Nat → Fn) : Ok46 (S0.up T) := fun t k one l hl hw hk hc hi => by
  rw [u46]
  rcases List.eq_nil_or_concat one with rfl | ⟨a, p, rfl⟩
  · have e1 : eqD (.tuple []) (.tuple []) = some (.bool true) := eq_M0 []
    have e2 : neD (.tuple []) (.tuple []) = some (.bool false) := ne_M0 []
    have mx : max2D (.int 0) (.int (-1)) = some (.int 0) := rfl
    have sl : slD (.tuple []) none (some 0) = some (.tuple []) := by rfl
    have sl1 : slD (.tuple [.tuple [.int 0], .tuple [.int 1, .int 1]]) none (some 1) = some (.tuple [.tuple [.int 0]]) := by rfl
    have ad : ∀ x : D, addU (.tuple []) (.tuple [x]) = some (.tuple [x]) := fun x => by rw [add_tup (szOk_of (by simp))]; rfl
    have ad2 : addU (.tuple [.int 0]) (.tuple [.int 9]) = some (.tuple [.int 0, .int 9]) := by rw [add_tup (szOk_of (by simp))]; rfl
    have ad3 : addU (.tuple [.int (-1)]) (.tuple [.int 0]) = some (.tuple [.int (-1), .int 0]) := by rw [add_tup (szOk_of (by simp))]; rfl
    have r : ∃ ρ', f46 T (entE [.io, .dt] [t, .tuple []]) = .ok (.rt (.list [.list [], .none, .int 0, .tuple [.tuple [.tuple [.int 0], .tuple [.int 0, .int 1]]], .tuple [.tuple [.tuple [.int 0], .tuple [.int 2, .int 4]]], .tuple [.tuple [.tuple [.int 0, .int 9], .tuple [.int 1, .int 1]]],
        .tuple [.tuple [.list [.int 0], .tuple [.int 1, .int 1]]], .tuple [.tuple [.tuple [.int 0]]], .tuple [.list [.tuple [.int 0], .tuple [.int 1, .int 1]]], .tuple [.tuple [.tuple [.int (-1), .int 0], .tuple [.int 1, .int 1]]], .tuple [.tuple [.tuple [.bool true], .tuple [.int 1, .int 1]]], .tuple [.tuple [], .tuple []]])) ρ' ∧ ρ' 0 = .io t := by
      refine ⟨_, by simp [f46, szOk, e1, e2, mx, sl, sl1, ad, ad2, ad3]; rfl, ?_⟩
      simp
    obtain ⟨ρ', r1, r2⟩ := r
    refine ⟨_, by show fnOf _ _ _ [t, .tuple []] = _; rw [fn_rt r1]; simp [r2]; rfl, by simp, fun x hx => ?_⟩
    simp only [List.mem_cons, List.not_mem_nil, or_false] at hx
    rcases hx with rfl | rfl | rfl | rfl | rfl | rfl | rfl | rfl | rfl | rfl | rfl | rfl
    · exact ⟨rfl, .inl rfl⟩
    · exact ⟨rfl, .inl rfl⟩
    · exact ⟨rfl, .inl rfl⟩
    · exact ⟨rfl, .inl (bad_pair List.mem_cons_self (pair_zero rfl))⟩
    · exact ⟨rfl, .inl (bad_pair List.mem_cons_self (pair_frac (by decide)))⟩
    · exact ⟨rfl, .inl (bad_pair List.mem_cons_self (pair_word (word_out (x := .int 9) (by simp) (let_big (by omega)))))⟩
    · exact ⟨rfl, .inl (bad_pair List.mem_cons_self (pair_word rfl))⟩
    · exact ⟨rfl, .inl (bad_two List.mem_cons_self rfl)⟩
    · exact ⟨rfl, .inl (bad_two List.mem_cons_self rfl)⟩
    · exact ⟨rfl, .inl (bad_pair List.mem_cons_self (pair_word (word_out (x := .int (-1)) (by simp) let_neg)))⟩
    · exact ⟨rfl, .inl (bad_pair List.mem_cons_self (pair_word rfl))⟩
    · exact ⟨rfl, .inl (bad_two List.mem_cons_self rfl)⟩
  · rw [List.concat_eq_append] at *
    have lp : p.1.length ≤ 1000 := hw p (by simp)
    have la : a.length ≤ 1000 := by rw [List.length_append] at hl; omega
    have l_a : Ln a := fun x hx => l x (by simp [hx])
    have gW : good 1 (eW p.1) = true := good_W (by omega)
    have e1 : eqD (eM (a ++ [p])) (.tuple []) = some (.bool false) := by rw [eq_M0]; simp
    have e2 : neD (eM (a ++ [p])) (.tuple []) = some (.bool true) := by rw [ne_M0]; simp
    have em : eM (a ++ [p]) = .tuple (a.map eP ++ [eP p]) := by unfold eM; rw [List.map_append]; rfl
    have ix : ixU (eM (a ++ [p])) (.int (-1)) = some (eP p) := by rw [em]; exact ix_last _ _
    have len : lenD (eM (a ++ [p])) = some (.int ((a.length : Nat) + 1)) := by
      show some (PyData.int (((a ++ [p]).map eP).length : Nat)) = _
      rw [List.length_map, List.length_append]
      rfl
    have mx : max2D (.int 0) (.int (a.length : Nat)) = some (.int (a.length : Nat)) := by
      show some (PyData.int (if ((a.length : Nat) : Int) > 0 then _ else 0)) = _
      congr 2
      split <;> omega
    have sl := sl_take a p
    have ad : ∀ x : D, addU (.tuple (a.map eP)) (.tuple [x]) = some (.tuple (a.map eP ++ [x])) := fun x => by rw [add_tup (szOk_of (by rw [List.length_map]; simp; omega))]
    have ad0 : addU (eM (a ++ [p])) (.tuple [eP p]) = some (eM (a ++ [p, p])) := by
      unfold eM
      rw [add_tup (szOk_of (by simp; omega))]
      simp
    have ad2 : addU (eW p.1) (.tuple [.int 9]) = some (eW (p.1 ++ [9])) := add_W (u := p.1) (v := [9]) (by omega) (by simp)
    have ad3 : addU (.tuple [.int (-1)]) (eW p.1) = some (eW ([-1] ++ p.1)) := add_W (u := [-1]) (v := p.1) (by simp) (by omega)
    have rv : rvD (eM (a ++ [p])) = some (eM (a ++ [p]).reverse) := by
      show some (PyData.tuple ((a ++ [p]).map eP).reverse) = _
      unfold eM
      rw [List.map_reverse]
    have i0 : ixU (eP p) (.int 0) = some (eW p.1) := by unfold eP; simp
    have i1 : ixU (eP p) (.int 1) = some (eF p.2) := by unfold eP; simp
    have sp : slD (eP p) none (some 1) = some (.tuple [eW p.1]) := by rfl
    have lM : listD (eM (a ++ [p])) = some (.list ((a ++ [p]).map eP)) := rfl
    have lP : listD (eP p) = some (.list [eW p.1, eF p.2]) := rfl
    have lW : listD (eW p.1) = some (.list (p.1.map .int)) := rfl
    have r : ∃ ρ', f46 T (entE [.io, .dt] [t, eM (a ++ [p])]) = .ok (.rt (.list [.list ((a ++ [p]).map eP), eM (a ++ [p, p]), if 0 < a.length then eM (a ++ [p]).reverse else .int 0, .tuple (a.map eP ++ [.tuple [eW p.1, .tuple [.int 0, .int 1]]]), .tuple (a.map eP ++ [.tuple [eW p.1, .tuple [.int 2, .int 4]]]),
        .tuple (a.map eP ++ [.tuple [eW (p.1 ++ [9]), eF p.2]]), .tuple (a.map eP ++ [.tuple [.list (p.1.map .int), eF p.2]]), .tuple (a.map eP ++ [.tuple [eW p.1]]), .tuple (a.map eP ++ [.list [eW p.1, eF p.2]]), .tuple (a.map eP ++ [.tuple [eW ([-1] ++ p.1), eF p.2]]), .none, .tuple [.tuple [], .tuple []]])) ρ' ∧ ρ' 0 = .io t := by
      by_cases hz : 0 < a.length
      · have hz' : (1 : Int) < (a.length : Int) + 1 := by omega
        refine ⟨_, by simp [f46, szOk, e1, e2, ix, len, mx, sl, ad, ad0, ad2, ad3, i0, i1, sp, lM, lP, lW, rv, hz, hz', -List.map_append, -List.reverse_append, -List.singleton_append]; rfl, ?_⟩
        simp
      · have hz' : ¬ (1 : Int) < (a.length : Int) + 1 := by omega
        refine ⟨_, by simp [f46, szOk, e1, e2, ix, len, mx, sl, ad, ad0, ad2, ad3, i0, i1, sp, lM, lP, lW, hz, hz', -List.map_append, -List.reverse_append, -List.singleton_append]; rfl, ?_⟩
        simp
    obtain ⟨ρ', r1, r2⟩ := r
    have ho : outs [.io, .dt] 0 ρ' = [t] := by simp [r2]
    refine ⟨_, by rw [fn_rt r1, ho], by simp, fun x hx => ?_⟩
    simp only [List.mem_cons, List.not_mem_nil, or_false] at hx
    have last : ∀ y : D, y ∈ a.map eP ++ [y] := fun y => by simp
    rcases hx with rfl | rfl | rfl | rfl | rfl | rfl | rfl | rfl | rfl | rfl | rfl | rfl
    · refine ⟨?_, .inl rfl⟩
      exact good_list (n := 5) (by rw [List.length_map]; omega) fun y hy => good_up (good_Ps l y hy) (by omega)
    · have l2 : Ln (a ++ [p, p]) := fun x hx => by
        simp at hx
        rcases hx with h | rfl
        · exact l_a x h
        · omega
      refine ⟨good_up (good_M l2 (by simp; omega)) (by omega), .inr ⟨_, rfl, l2, by simp; omega, fun x hx => ?_, ?_⟩⟩
      · simp at hx
        have : x ∈ a ++ [p] := by simp [hx]
        exact ⟨hc.nz x this, hi x this⟩
      · have : Q.keys (a ++ [p, p]) = Q.keys a ++ [p.1, p.1] := by simp [Q.keys]
        rw [this, all_snoc2, ltW_irr, Bool.and_false]
    · by_cases hz : 0 < a.length
      · rw [if_pos hz]
        obtain ⟨b, q, rfl⟩ : ∃ b q, a = b ++ [q] := by
          rcases List.eq_nil_or_concat a with rfl | ⟨b, q, rfl⟩
          · simp at hz
          · exact ⟨b, q, List.concat_eq_append ..⟩
        have l2 : Ln (b ++ [q] ++ [p]).reverse := fun x hx => l x (List.mem_reverse.mp hx)
        refine ⟨good_up (good_M l2 (by rw [List.length_reverse]; omega)) (by omega), .inr ⟨_, rfl, l2, by rw [List.length_reverse]; omega, fun x hx => ⟨hc.nz x (List.mem_reverse.mp hx), hi x (List.mem_reverse.mp hx)⟩, ?_⟩⟩
        have lt : ltW p.1 q.1 = false := by
          have pw' := hc.asc
          rw [List.append_assoc, List.pairwise_append] at pw'
          have pq := pw'.2.1
          simp at pq
          unfold ltW
          have w := pq.1
          simp only [Q.wle, decide_eq_true_eq] at w
          simp only [decide_eq_false_iff_not]
          rintro (z | ⟨z1, z2⟩)
          · rcases w with w | ⟨w1, w2⟩
            · omega
            · omega
          · rcases w with w | ⟨w1, w2⟩
            · omega
            · exact absurd z2 (List.not_lt.mpr w2)
        unfold risesB Q.keys
        simp [lt]
      · rw [if_neg hz]
        exact ⟨rfl, .inl rfl⟩
    · exact ⟨good_app l_a (by omega) (good_up (good_two (n := 1) gW rfl) (by omega)), .inl (bad_pair (last _) (pair_zero rfl))⟩
    · exact ⟨good_app l_a (by omega) (good_up (good_two (n := 1) gW rfl) (by omega)), .inl (bad_pair (last _) (pair_frac (by decide)))⟩
    · exact ⟨good_app l_a (by omega) (good_up (good_two (n := 1) (good_W (by rw [List.length_append]; simp; omega)) (good_F _)) (by omega)), .inl (bad_pair (last _) (pair_word (word_out (x := .int 9) (by simp) (let_big (by omega)))))⟩
    · exact ⟨good_app l_a (by omega) (good_up (good_two (n := 1) (good_list (by rw [List.length_map]; omega) fun y hy => by
        obtain ⟨i, _, rfl⟩ := List.mem_map.mp hy
        rfl) (good_F _)) (by omega)), .inl (bad_pair (last _) (pair_word rfl))⟩
    · exact ⟨good_app l_a (by omega) (good_up (n := 2) (good_tuple (by simp) fun y hy => by
        rw [List.mem_singleton.mp hy]
        exact gW) (by omega)), .inl (bad_two (last _) rfl)⟩
    · exact ⟨good_app l_a (by omega) (good_up (n := 2) (good_list (by simp) fun y hy => by
        simp only [List.mem_cons, List.not_mem_nil, or_false] at hy
        rcases hy with rfl | rfl
        · exact gW
        · exact good_F _) (by omega)), .inl (bad_two (last _) rfl)⟩
    · exact ⟨good_app l_a (by omega) (good_up (good_two (n := 1) (good_W (by rw [List.length_append]; simp; omega)) (good_F _)) (by omega)), .inl (bad_pair (last _) (pair_word (word_out (x := .int (-1)) (by simp) let_neg)))⟩
    · exact ⟨rfl, .inl rfl⟩
    · exact ⟨rfl, .inl (bad_two List.mem_cons_self rfl)⟩
end Rf
end
section
set_option Elab.async false
set_option linter.all false
set_option maxRecDepth 100000
set_option maxHeartbeats 4000000
/-! S18: all promises at one level; sizes. -/
namespace Rf
open PySem PySem.Spec L2
/-- so long, so wide, so many -/
structure Mz (L n c : Nat) (m : Q.Mx) : Prop where
  len : m.length ≤ c
  ln : ∀ p ∈ m, p.1.length ≤ L
  sz : Q.SzM n m
theorem Mz.mono {L n c L' n' c' : Nat} {m : Q.Mx} (h : Mz L n c m) (a : L ≤ L') (b : n ≤ n') (d : c ≤ c') : Mz L' n' c' m := ⟨Nat.le_trans h.len d, fun p hp => Nat.le_trans (h.ln p hp) a, fun p hp => (h.sz p hp).mono b⟩
theorem mem_prod {a b : Q.Mx} {p : Q.W × Rat} (h : p ∈ prodL a b) : ∃ x ∈ a, ∃ y ∈ b, p = (x.1 ++ y.1, x.2 * y.2) := by
  unfold prodL at h
  obtain ⟨x, hx, h⟩ := List.mem_flatMap.mp h
  obtain ⟨y, hy, rfl⟩ := List.mem_map.mp h
  exact ⟨x, hx, y, hy, rfl⟩
theorem canon_word {m : Q.Mx} {p : Q.W × Rat} (h : p ∈ Q.canon m) : ∃ r ∈ m, r.1 = p.1 := by
  obtain ⟨r, hr, e⟩ := List.mem_map.mp (Q.canon_keys h).1
  exact ⟨r, hr, e⟩
theorem Mz.canon {L n c : Nat} {m : Q.Mx} (h : Mz L n c m) : Mz L (1 + c * (n + 1)) c (Q.canon m) :=
  ⟨Nat.le_trans (Q.canon_len m) h.len, fun p hp => by
    obtain ⟨r, hr, e⟩ := canon_word hp
    rw [← e]
    exact h.ln r hr, fun p hp => (Q.sz_canon h.sz p hp).mono (Nat.add_le_add_left (Nat.mul_le_mul_right _ h.len) _)⟩
theorem Mz.prod {L n c L' n' c' : Nat} {a b : Q.Mx} (h : Mz L n c a) (k : Mz L' n' c' b) : Mz (L + L') (n + n') (c * c') (prodL a b) := by
  refine ⟨?_, fun p hp => ?_, fun p hp => ?_⟩
  · have : (prodL a b).length = a.length * b.length := by
      unfold prodL
      clear h
      induction a with
      | nil => simp
      | cons x a ih => rw [List.flatMap_cons, List.length_append, ih, List.length_map, List.length_cons, Nat.succ_mul]; omega
    rw [this]
    exact Nat.mul_le_mul h.len k.len
  · obtain ⟨x, hx, y, hy, rfl⟩ := mem_prod hp
    rw [List.length_append]
    exact Nat.add_le_add (h.ln x hx) (k.ln y hy)
  · obtain ⟨x, hx, y, hy, rfl⟩ := mem_prod hp
    exact (h.sz x hx).mul (k.sz y hy)
theorem Mz.app {L n c L' n' c' : Nat} {a b : Q.Mx} (h : Mz L n c a) (k : Mz L' n' c' b) : Mz (max L L') (max n n') (c + c') (a ++ b) := by
  refine ⟨by rw [List.length_append]; exact Nat.add_le_add h.len k.len, fun p hp => ?_, fun p hp => ?_⟩
  · rcases List.mem_append.mp hp with z | z
    · exact Nat.le_trans (h.ln p z) (Nat.le_max_left _ _)
    · exact Nat.le_trans (k.ln p z) (Nat.le_max_right _ _)
  · rcases List.mem_append.mp hp with z | z
    · exact (h.sz p z).mono (Nat.le_max_left _ _)
    · exact (k.sz p z).mono (Nat.le_max_right _ _)
theorem Mz.scale {L n c n' : Nat} {m : Q.Mx} {q : Rat} (h : Mz L n c m) (k : Q.Sz n' q) : Mz L (n + n') c (scale m q) := by
  refine ⟨by unfold Rf.scale; rw [List.length_map]; exact h.len, fun p hp => ?_, fun p hp => ?_⟩ <;>
  · unfold Rf.scale at hp
    obtain ⟨r, hr, rfl⟩ := List.mem_map.mp hp
    first
      | exact h.ln r hr
      | exact (h.sz r hr).mul k
theorem Mz.turn {L n c : Nat} {m : Q.Mx} (h : Mz L n c m) : Mz L n c (turnM m) := by
  refine ⟨by unfold turnM; rw [List.length_map]; exact h.len, fun p hp => ?_, fun p hp => ?_⟩ <;>
  · unfold turnM at hp
    obtain ⟨r, hr, rfl⟩ := List.mem_map.mp hp
    first
      | exact h.sz r hr
      | (show r.1.reverse.length ≤ L; rw [List.length_reverse]; exact h.ln r hr)
theorem Mz.take {L n c : Nat} {m : Q.Mx} (h : Mz L n c m) (k : Nat) : Mz L n (min k c) (m.take k) :=
  ⟨by rw [List.length_take]; have := h.len; omega, fun p hp => h.ln p (List.mem_of_mem_take hp), fun p hp => h.sz p (List.mem_of_mem_take hp)⟩
theorem Mz.bnd {L n c : Nat} {m : Q.Mx} (h : Mz L n c m) (k : 1 + c * (n + 1) ≤ 4000) : BndM n m := ⟨h.sz, Nat.le_trans (Nat.add_le_add_left (Nat.mul_le_mul_right _ h.len) _) k⟩
theorem Mz.Ln {L n c : Nat} {m : Q.Mx} (h : Mz L n c m) (k : L ≤ 8000000) : Ln m := fun p hp => Nat.le_trans (h.ln p hp) k
theorem Mz.sm {L n c : Nat} {m : Q.Mx} (h : Mz L n c m) (k : n ≤ 4000) : SmM m := fun p hp => (h.sz p hp).mono k
theorem Mz.rd {L n c : Nat} {m : Q.Mx} (h : Mz L n c m) (k : L ≤ 8000000) (k2 : c ≤ 16777216) : Rd4 (eM m) m := rd_M (h.Ln k) (Nat.le_trans h.len k2)
/-! ### promises about SUMS -/
def Ok20 (T : Nat → Fn) : Prop := ∀ (X Y : D) (n : Nat) (zs : List (D × Q.Mx × Q.Mx)), itemsD X = some (zs.map (·.1)) → itemsD Y = some (zs.map fun z => eM z.2.2) → zs.length ≤ 1000 → (∀ z ∈ zs, Rd4 z.1 z.2.1 ∧ Ln z.2.1 ∧ Ln z.2.2 ∧ z.2.2.length ≤ 16777216 ∧ BndM n (z.2.1 ++ z.2.2)) →
  T 20 [X, Y] = .ok (.tuple (zs.map fun z => eM (Q.canon (z.2.1 ++ z.2.2)))) []
theorem ok20 {T : Nat → Fn} (h : Ok16 T) : Ok20 (S0.up T) := fun X Y n zs hX hY hl hz => run20 zs _ _ _ hX hY (by omega) fun z hz' => by
  obtain ⟨a, b, c, d, e⟩ := hz z hz'
  exact h z.1 (eM z.2.2) n z.2.1 z.2.2 a (rd_M c d) b c e
def Ok21 (T : Nat → Fn) : Prop := ∀ (Y : D) (n : Nat) (ls : List Q.Mx) (q : Rat), good 6 Y = true → tD Y = eF q → Sm q → ls.length ≤ 1000 → (∀ m ∈ ls, Ln m ∧ SmM m ∧ m.length ≤ 16777216 ∧ BndM n (scale m q)) → T 21 [eL ls, Y] = .ok (.tuple (ls.map fun m => eM (Q.canon (scale m q)))) []
theorem ok21 {T : Nat → Fn} (h : Ok17 T) : Ok21 (S0.up T) := fun Y n ls q gY tY sq hl hz => run21 ls eM _ rfl (by omega) fun m hm => by
  obtain ⟨a, b, c, d⟩ := hz m hm
  exact h _ _ n m q (rd_M a c) gY tY a b sq d
theorem items_lL (ls : List Q.Mx) : itemsU (lD (eL ls)) = some (ls.map fun m => lD (eM m)) := by
  show some (lDs (ls.map eM)) = _
  rw [lDs_map, List.map_map]
  rfl
theorem items_lL' (ls : List Q.Mx) : itemsD (lD (eL ls)) = some (ls.map fun m => lD (eM m)) := by
  show some (lDs (ls.map eM)) = _
  rw [lDs_map, List.map_map]
  rfl
def Ok22 (T : Nat → Fn) : Prop := ∀ (n : Nat) (one : Q.Mx) (ls : List Q.Mx), Ln one → SmM one → one.length ≤ 16777216 → ls.length ≤ 1000 → (∀ m ∈ ls, Ln m ∧ SmM m ∧ m.length ≤ 16777216 ∧ BndM n (prodL one m)) → T 22 [eM one, lD (eL ls)] = .ok (.tuple (ls.map fun m => eM (Q.canon (prodL one m)))) []
theorem ok22 {T : Nat → Fn} (h : Ok18 T) : Ok22 (S0.up T) := fun n one ls l s hl hl2 hz => run22 ls (fun m => lD (eM m)) _ (items_lL ls) (by omega) fun m hm => by
  obtain ⟨a, b, c, d⟩ := hz m hm
  exact h _ _ n one m (rd_M l hl) (rd_lists (rd_M a c)) l a s b d
def Ok23 (T : Nat → Fn) : Prop := ∀ (n : Nat) (one : Q.Mx) (ls : List Q.Mx), Ln one → SmM one → one.length ≤ 16777216 → ls.length ≤ 1000 → (∀ m ∈ ls, Ln m ∧ SmM m ∧ m.length ≤ 16777216 ∧ BndM n (prodL m one)) → T 23 [lD (eL ls), eM one] = .ok (.tuple (ls.map fun m => eM (Q.canon (prodL m one)))) []
theorem ok23 {T : Nat → Fn} (h : Ok18 T) : Ok23 (S0.up T) := fun n one ls l s hl hl2 hz => run23 ls (fun m => lD (eM m)) _ (items_lL ls) (by omega) fun m hm => by
  obtain ⟨a, b, c, d⟩ := hz m hm
  exact h _ _ n m one (rd_lists (rd_M a c)) (rd_M l hl) a l b s d
def Ok26 (T : Nat → Fn) : Prop := ∀ ls : List Q.Mx, (lens ls).length ≤ 16000000 → T 26 [eL ls] = .ok (.int (maxI (0 :: lens ls))) [] ∧ T 26 [lD (eL ls)] = .ok (.int (maxI (0 :: lens ls))) []
theorem ok26 (T : Nat → Fn) : Ok26 (S0.up T) := fun ls hl => ⟨run26 T eM eP eW eF rfl (fun m _ => rfl) (fun p => rfl) len_W hl, run26 T (fun m => lD (eM m)) (fun p => lD (eP p)) (fun w => lD (eW w)) (fun q => lD (eF q)) (items_lL ls) (fun m _ => by
    show some (lDs (m.map eP)) = _
    rw [lDs_map, List.map_map]
    rfl) (fun p => rfl) (fun w => by
    show some (PyData.int ((lDs (w.map .int)).length : Nat)) = _
    rw [lDs_map, List.length_map, List.length_map]) hl⟩
def Ok29 (T : Nat → Fn) : Prop := ∀ ls : List Q.Mx, (lets ls).length < 63 → T 29 [eL ls] = .ok (.tuple (sI (lets ls))) []
def Ok36 (T : Nat → Fn) : Prop := ∀ ns : List Int, ns.length < 63 → T 36 [.list (ns.map .int)] = .ok (.tuple (sI ns)) []
def Ok6 (T : Nat → Fn) : Prop := ∀ ns : List Int, ns.length < 63 → T 6 [.list (ns.map .int)] = .ok (.tuple (sI ns)) []
def Ok12 (T : Nat → Fn) : Prop := ∃ T', T = S0.up T' ∧ Ok2 T' ∧ Ok11 T' ∧ Ok11n T'
def Ok41 (T : Nat → Fn) : Prop := ∃ T', T = S0.up T' ∧ Ok15 T' ∧ Ok15x T'
structure AllOk (T : Nat → Fn) : Prop where
  o10 : Ok10 T
  o11 : Ok11 T
  o11n : Ok11n T
  o12 : Ok12 T
  o14 : Ok14 T
  o16 : Ok16 T
  o17 : Ok17 T
  o18 : Ok18 T
  o19 : Ok19 T
  o20 : Ok20 T
  o21 : Ok21 T
  o22 : Ok22 T
  o23 : Ok23 T
  o24 : Ok24 T
  o25 : Ok25 T
  o26 : Ok26 T
  o27 : Ok27 T
  o28 : Ok28 T
  o29 : Ok29 T
  o30 : Ok30 T
  o31 : Ok31 T
  o32 : Ok32 T
  o34 : Ok34 6 T
  o35 : Ok35 6 T
  o36 : Ok36 T
  o37 : Ok37 T
  o39 : Ok39 T
  o41 : Ok41 T
  o42 : Ok42 T
  o43 : Ok43 T
  o44 : Ok44 T
  o45 : Ok45 T
  o46 : Ok46 T
  o47 : Ok47 T
theorem tab_up (k : Nat) : S0.tab (k + 1) = S0.up (S0.tab k) := rfl
theorem lv4 : ∀ (n k : Nat), n + 1 ≤ k → Ok4 n (S0.tab k)
  | 0, k + 1, _ => ok4_0 _
  | n + 1, k + 1, h => ok4_s (lv4 n k (by omega))
theorem lv35 : ∀ (n k : Nat), n + 1 ≤ k → Ok35 n (S0.tab k)
  | 0, k + 1, _ => ok35_0 _
  | n + 1, k + 1, h => ok35_s (lv35 n k (by omega))
theorem lv34 : ∀ (n k : Nat), n + 1 ≤ k → Ok34 n (S0.tab k)
  | 0, k + 1, _ => ok34_s (.inl rfl)
  | n + 1, k + 1, h => ok34_s (.inr ⟨n, rfl, lv34 n k (by omega)⟩)
theorem l7 (k : Nat) : Ok7 (S0.tab (k + 1)) := ok7 _
theorem l37 (k : Nat) : Ok37 (S0.tab (k + 1)) := ok37 _
theorem l8 (k : Nat) : Ok8 (S0.tab (k + 2)) := ok8 (l7 k)
theorem l9 (k : Nat) : Ok9 (S0.tab (k + 2)) := ok9 (l7 k)
theorem l38 (k : Nat) : Ok38 (S0.tab (k + 2)) := ok38 (l37 k)
theorem l39 (k : Nat) : Ok39 (S0.tab (k + 2)) := ok39 (l37 k)
theorem l40 (k : Nat) : Ok40 (S0.tab (k + 3)) := ok40 (l38 k)
theorem l42 (k : Nat) : Ok42 (S0.tab (k + 4)) := ok42 (l40 k)
theorem l43 (k : Nat) : Ok43 (S0.tab (k + 5)) := ok43 (l39 (k + 2)) (l42 k)
theorem l13 (k : Nat) : Ok13 (S0.tab (k + 1)) := ok13 _
theorem l14 (k : Nat) : Ok14 (S0.tab (k + 8)) := ok14 (lv4 6 (k + 7) (by omega)) (l8 (k + 5)) (l13 (k + 6))
theorem l18 (k : Nat) : Ok18 (S0.tab (k + 8)) := ok18 (lv4 6 (k + 7) (by omega)) (l8 (k + 5)) (l9 (k + 5)) (l13 (k + 6))
theorem l15 (k : Nat) : Ok15 (S0.tab (k + 9)) := ok15 (lv4 6 (k + 8) (by omega)) (l14 k)
theorem l15x (k : Nat) : Ok15x (S0.tab (k + 9)) := ok15x (lv4 6 (k + 8) (by omega))
theorem l16 (k : Nat) : Ok16 (S0.tab (k + 9)) := ok16 (lv4 6 (k + 8) (by omega)) (l14 k)
theorem l17 (k : Nat) : Ok17 (S0.tab (k + 9)) := ok17 (lv4 6 (k + 8) (by omega)) (l9 (k + 6)) (l14 k)
theorem l28 (k : Nat) : Ok28 (S0.tab (k + 9)) := ok28 (lv4 6 (k + 8) (by omega)) (l14 k)
theorem l19 (k : Nat) : Ok19 (S0.tab (k + 9)) := ok19 (l18 k)
theorem l24 (k : Nat) : Ok24 (S0.tab (k + 8)) := ok24 (lv4 6 (k + 7) (by omega))
theorem l25 (k : Nat) : Ok25 (S0.tab (k + 9)) := ok25 (l24 k)
theorem l27 (k : Nat) : Ok27 (S0.tab (k + 8)) := ok27 (lv4 6 (k + 7) (by omega))
theorem l0 (k : Nat) : Ok0 (S0.tab (k + 1)) := fun d h => run0 _ h
theorem l1 (k : Nat) : Ok1 (S0.tab (k + 2)) := ok1 (l0 k)
theorem l2 (k : Nat) : Ok2 (S0.tab (k + 1)) := ok2 _
theorem l3 (k : Nat) : Ok3 (S0.tab (k + 2)) := ok3 (l0 k) (l2 k)
theorem l5 (k : Nat) : Ok5 (S0.tab (k + 1)) := ok5 _
theorem l10 (k : Nat) : Ok10 (S0.tab (k + 3)) := ok10 (l1 k)
theorem l11 (k : Nat) : Ok11 (S0.tab (k + 4)) := ok11 (l2 (k + 2)) (l3 (k + 1)) (l5 (k + 2)) (l10 k)
theorem l11n (k : Nat) : Ok11n (S0.tab (k + 4)) := ok11n (l2 (k + 2)) (l3 (k + 1)) (l10 k)
theorem l31 (k : Nat) : Ok31 (S0.tab (k + 1)) := ok31 _
theorem l33 (k : Nat) : Ok33 (S0.tab (k + 2)) := ok33 (l31 k)
theorem l44 (k : Nat) : Ok44 (S0.tab (k + 2)) := ok44 (l31 k)
theorem l45 (k : Nat) : Ok45 (S0.tab (k + 3)) := ok45 (l31 (k + 1)) (l33 k) (l37 (k + 1)) (l44 k)
theorem all_ok : AllOk (S0.tab 12) where
  o10 := l10 9
  o11 := l11 8
  o11n := l11n 8
  o12 := ⟨_, tab_up 11, l2 10, l11 7, l11n 7⟩
  o14 := l14 4
  o16 := l16 3
  o17 := l17 3
  o18 := l18 4
  o19 := l19 3
  o20 := ok20 (l16 2)
  o21 := ok21 (l17 2)
  o22 := ok22 (l18 3)
  o23 := ok23 (l18 3)
  o24 := l24 4
  o25 := l25 3
  o26 := ok26 _
  o27 := l27 4
  o28 := l28 3
  o29 := fun ls h => run29 (fun ns h => run6 _ h) h
  o30 := ok30 _
  o31 := l31 11
  o32 := ok32 _
  o34 := lv34 6 12 (by omega)
  o35 := lv35 6 12 (by omega)
  o36 := fun ns h => run36 _ h
  o37 := l37 11
  o39 := l39 10
  o41 := ⟨_, tab_up 11, l15 2, l15x 2⟩
  o42 := l42 8
  o43 := l43 7
  o44 := l44 10
  o45 := l45 9
  o46 := ok46 _
  o47 := ok47 _
end Rf
end
section
set_option Elab.async false
set_option linter.all false
set_option maxRecDepth 100000
set_option maxHeartbeats 4000000
/-! S19: the law's turn, statement by statement: draws, MIXES. -/
namespace Rf
open PySem PySem.Spec L2
abbrev bx0 (T : Nat → Fn) : MS := asMu 1 (callM (T 30) [Md.bo, Md.dt] [Ar.dt (callM (T 32) [Md.bo, Md.dt] [Ar.nm 0, Ar.dt (M.pure (PyData.int 1))]), Ar.dt (M.pure (PyData.int 0))])
abbrev b1 (T : Nat → Fn) : MS := asM (Pat.tp [Pat.nm 3, Pat.nm 4]) (tupM (consM (bin addU (M.pure (PyData.int 1)) (callM (T 31) [Md.io, Md.dt] [Ar.nm 1, Ar.dt (M.pure (PyData.int 3))])) (consM (bin addU (M.pure (PyData.int 1)) (callM (T 31) [Md.io, Md.dt] [Ar.nm 1, Ar.dt (M.pure (PyData.int 3))])) nilM)))
abbrev b2 (T : Nat → Fn) : MS := par2 5 6 false false (callM (T 45) [Md.io, Md.dt, Md.dt] [Ar.nm 1, Ar.dt (vrM 3), Ar.dt (M.pure (PyData.int 5))]) (callM (T 45) [Md.io, Md.dt, Md.dt] [Ar.nm 1, Ar.dt (vrM 3), Ar.dt (M.pure (PyData.int 4))])
abbrev b3 (T : Nat → Fn) : MS := asM (Pat.tp [Pat.nm 7, Pat.nm 8, Pat.nm 9]) (tupM (consM (callM (T 42) [Md.dt] [Ar.dt (vrM 5)]) (consM (callM (T 42) [Md.dt] [Ar.dt (vrM 6)]) (consM (callM (T 37) [Md.dt, Md.dt] [Ar.dt (bin subD (callM (T 31) [Md.io, Md.dt] [Ar.nm 1, Ar.dt (M.pure (PyData.int 7))]) (M.pure (PyData.int 3))), Ar.dt (bin addU (M.pure (PyData.int 1)) (callM (T 31) [Md.io, Md.dt] [Ar.nm 1, Ar.dt (M.pure (PyData.int 4))]))]) nilM))))
abbrev b4 (T : Nat → Fn) : MS := asM (Pat.nm 10) (lstM (consM (callM (T 14) [Md.dt] [Ar.dt (callM (T 35) [Md.dt] [Ar.dt (vrM 5)])]) (consM (callM (T 16) [Md.dt, Md.dt] [Ar.dt (callM (T 35) [Md.dt] [Ar.dt (vrM 7)]), Ar.dt (vrM 8)]) (consM (callM (T 17) [Md.dt, Md.dt] [Ar.dt (vrM 7), Ar.dt (callM (T 35) [Md.dt] [Ar.dt (vrM 9)])]) (consM (callM (T 18) [Md.dt, Md.dt] [Ar.dt (vrM 7), Ar.dt (callM (T 35) [Md.dt] [Ar.dt (vrM 8)])]) (consM (callM (T 28) [Md.dt] [Ar.dt (callM (T 35) [Md.dt] [Ar.dt (vrM 7)])]) (consM (callM (T 14) [Md.dt] [Ar.dt (tupM nilM)]) nilM)))))))
abbrev b5 (T : Nat → Fn) : MS := asM (Pat.nm 11) (lstM (consM (vrM 7) (consM (callM (T 42) [Md.dt] [Ar.dt (bin addU (un1 listD (rdM 7)) (un1 listD (rdM 8)))]) (consM (callM (T 42) [Md.dt] [Ar.dt (compM (itsU (rdM 7)) [12, 13] (stepM (Pat.tp [Pat.nm 12, Pat.nm 13]) yesM (elM (tupM (consM (vrM 12) (consM (callM (T 39) [Md.dt, Md.dt] [Ar.dt (vrM 13), Ar.dt (vrM 9)]) nilM))))))]) (consM (callM (T 43) [Md.dt, Md.dt] [Ar.dt (vrM 7), Ar.dt (vrM 8)]) (consM (callM (T 42) [Md.dt] [Ar.dt (compM (itsU (rdM 7)) [12, 13] (stepM (Pat.tp [Pat.nm 12, Pat.nm 13]) yesM (elM (tupM (consM (un1 rvD (rdM 12)) (consM (vrM 13) nilM))))))]) (consM (tupM nilM) nilM)))))))
abbrev b6 (T : Nat → Fn) : MS := ifM (notT (truM (callM (T 34) [Md.dt, Md.dt] [Ar.dt (vrM 10), Ar.dt (vrM 11)]))) (seqM (rtM (M.pure (PyData.bool false))) nxM) nxM
abbrev b7 (T : Nat → Fn) : MS := par2 14 15 false false (tupM (consM (tupM (consM (tupM nilM) (consM (tupM (consM (M.pure (PyData.int 1)) (consM (M.pure (PyData.int 1)) nilM))) nilM))) nilM)) (callM (T 31) [Md.io, Md.dt] [Ar.nm 1, Ar.dt (M.pure (PyData.int 4))])
abbrev b8 (T : Nat → Fn) : MS := forM' (overM rng1D (consM (vrM 15) nilM)) (Pat.nm 16) (seqM (asM (Pat.nm 14) (callM (T 43) [Md.dt, Md.dt] [Ar.dt (vrM 14), Ar.dt (slM slD (rdM 7) noPt (somePt (M.pure (PyData.int 2))))])) nxM)
abbrev b9 (T : Nat → Fn) : MS := ifM (notT (truM (callM (T 34) [Md.dt, Md.dt] [Ar.dt (callM (T 19) [Md.dt, Md.dt] [Ar.dt (callM (T 35) [Md.dt] [Ar.dt (slM slD (rdM 7) noPt (somePt (M.pure (PyData.int 2))))]), Ar.dt (vrM 15)]), Ar.dt (vrM 14)]))) (seqM (rtM (M.pure (PyData.bool false))) nxM) nxM
abbrev b10 (T : Nat → Fn) : MS := asM (Pat.nm 17) (compM (itsU (bin addU (rdM 5) (rdM 6))) [12, 13] (stepM (Pat.tp [Pat.nm 12, Pat.nm 13]) yesM (elM (tupM (consM (vrM 12) (consM (callM (T 31) [Md.io, Md.dt] [Ar.nm 1, Ar.dt (vrM 4)]) (consM (vrM 13) nilM)))))))
abbrev b11 (T : Nat → Fn) : MS := asM (Pat.nm 18) (un1 tupD (compM (overM rng1D (consM (vrM 4) nilM)) [20] (stepM (Pat.nm 20) yesM (elM (callM (T 42) [Md.dt] [Ar.dt (compM (itsU (rdM 17)) [12, 19, 13] (stepM (Pat.tp [Pat.nm 12, Pat.nm 19, Pat.nm 13]) (tstM (bin eqD (rdM 19) (rdM 20))) (elM (tupM (consM (vrM 12) (consM (vrM 13) nilM))))))])))))
abbrev b12 (T : Nat → Fn) : MS := asM (Pat.nm 21) (un1 tupD (compM (overM rng1D (consM (vrM 4) nilM)) [20] (stepM (Pat.nm 20) yesM (elM (callM (T 42) [Md.dt] [Ar.dt (callM (T 45) [Md.io, Md.dt, Md.dt] [Ar.nm 1, Ar.dt (vrM 3), Ar.dt (M.pure (PyData.int 2))])])))))
abbrev b13 (T : Nat → Fn) : MS := asM (Pat.nm 22) (un1 srtD (callM (T 47) [Md.dt] [Ar.dt (vrM 18)]))
abbrev b14 (T : Nat → Fn) : MS := asM (Pat.nm 23) (un1 tupD (compM (itsU (un1 rvD (rdM 22))) [24, 12, 19, 13] (stepM (Pat.tp [Pat.nm 24, Pat.nm 12, Pat.nm 19, Pat.nm 13]) yesM (elM (tupM (consM (vrM 12) (consM (vrM 19) (consM (vrM 13) nilM))))))))
abbrev b15 (T : Nat → Fn) : MS := asM (Pat.nm 10) (lstM (consM (callM (T 41) [Md.dt, Md.dt] [Ar.dt (callM (T 35) [Md.dt] [Ar.dt (vrM 17)]), Ar.dt (vrM 4)]) (consM (callM (T 20) [Md.dt, Md.dt] [Ar.dt (callM (T 35) [Md.dt] [Ar.dt (vrM 18)]), Ar.dt (vrM 21)]) (consM (callM (T 21) [Md.dt, Md.dt] [Ar.dt (vrM 18), Ar.dt (vrM 9)]) (consM (callM (T 22) [Md.dt, Md.dt] [Ar.dt (vrM 7), Ar.dt (callM (T 35) [Md.dt] [Ar.dt (vrM 18)])]) (consM (callM (T 23) [Md.dt, Md.dt] [Ar.dt (callM (T 35) [Md.dt] [Ar.dt (vrM 18)]), Ar.dt (vrM 7)]) (consM (callM (T 24) [Md.dt] [Ar.dt (callM (T 35) [Md.dt] [Ar.dt (vrM 18)])]) (consM (callM (T 25) [Md.dt] [Ar.dt (vrM 18)]) (consM (callM (T 26) [Md.dt] [Ar.dt (callM (T 35) [Md.dt] [Ar.dt (vrM 18)])]) (consM (callM (T 29) [Md.dt] [Ar.dt (vrM 18)]) nilM))))))))))
abbrev b16 (T : Nat → Fn) : MS := asM (Pat.nm 25) (lstM nilM)
abbrev b17 (T : Nat → Fn) : MS := forM' (itsM (wvM 23)) (Pat.tp [Pat.nm 12, Pat.nm 19, Pat.nm 13]) (seqM (asM (Pat.nm 25) (bin addU (rdM 25) (un1 listD (rdM 12)))) nxM)
abbrev b18 (T : Nat → Fn) : MS := asM (Pat.nm 11) (lstM (consM (lstM (consM (M.pure (PyData.str (Str.ofString "told"))) (consM (vrM 18) nilM))) (consM (un1 tupD (compM (overM zipDs (consM (vrM 18) (consM (vrM 21) nilM))) [26, 27] (stepM (Pat.tp [Pat.nm 26, Pat.nm 27]) yesM (elM (callM (T 42) [Md.dt] [Ar.dt (bin addU (un1 listD (rdM 26)) (un1 listD (rdM 27)))]))))) (consM (un1 tupD (compM (itsU (rdM 18)) [28] (stepM (Pat.nm 28) yesM (elM (callM (T 42) [Md.dt] [Ar.dt (compM (itsU (rdM 28)) [12, 13] (stepM (Pat.tp [Pat.nm 12, Pat.nm 13]) yesM (elM (tupM (consM (vrM 12) (consM (callM (T 39) [Md.dt, Md.dt] [Ar.dt (vrM 13), Ar.dt (vrM 9)]) nilM))))))]))))) (consM (un1 tupD (compM (itsU (rdM 18)) [28] (stepM (Pat.nm 28) yesM (elM (callM (T 43) [Md.dt, Md.dt] [Ar.dt (vrM 7), Ar.dt (vrM 28)]))))) (consM (un1 tupD (compM (itsU (rdM 18)) [28] (stepM (Pat.nm 28) yesM (elM (callM (T 43) [Md.dt, Md.dt] [Ar.dt (vrM 28), Ar.dt (vrM 7)]))))) (consM (vrM 23) (consM (iteM (tstM (bin neD (rdM 23) (tupM nilM))) (bin ixU (rdM 23) (M.pure (PyData.int 0))) (M.pure PyData.none)) (consM (un1 maxD (bin addU (lstM (consM (M.pure (PyData.int 0)) nilM)) (compM (itsU (rdM 23)) [12, 19, 13] (stepM (Pat.tp [Pat.nm 12, Pat.nm 19, Pat.nm 13]) yesM (elM (un1 lenD (rdM 12))))))) (consM (callM (T 36) [Md.dt] [Ar.dt (vrM 25)]) nilM))))))))))
abbrev b19 (T : Nat → Fn) : MS := ifM (notT (truM (callM (T 34) [Md.dt, Md.dt] [Ar.dt (vrM 10), Ar.dt (vrM 11)]))) (seqM (rtM (M.pure (PyData.bool false))) nxM) nxM
abbrev b20 (T : Nat → Fn) : MS := asM (Pat.nm 29) (compM (overM enumDs (consM (vrM 17) nilM)) [30, 12, 19, 13] (stepM (Pat.tp [Pat.nm 30, Pat.tp [Pat.nm 12, Pat.nm 19, Pat.nm 13]]) yesM (elM (tupM (consM (vrM 12) (consM (bin addU (rdM 19) (iteM (tstM (bin eqD (rdM 30) (bin subD (un1 lenD (rdM 17)) (M.pure (PyData.int 1))))) (vrM 4) (M.pure (PyData.int 0)))) (consM (vrM 13) nilM)))))))
abbrev b21 (T : Nat → Fn) : MS := ifM (andT (tstM (bin neD (rdM 17) (lstM nilM))) (orT (tstM (bin neD (callM (T 41) [Md.dt, Md.dt] [Ar.dt (vrM 29), Ar.dt (vrM 4)]) (lstM (consM (M.pure (PyData.str (Str.ofString "NoRegister"))) (consM (bin ixU (bin ixU (rdM 29) (negM (M.pure (PyData.int 1)))) (M.pure (PyData.int 1))) (consM (M.pure (PyData.bool true)) nilM)))))) (tstM (bin neD (callM (T 41) [Md.dt, Md.dt] [Ar.dt (bin addU (lstM (consM (tupM (consM (tupM nilM) (consM (negM (M.pure (PyData.int 1))) (consM (tupM (consM (M.pure (PyData.int 1)) (consM (M.pure (PyData.int 1)) nilM))) nilM)))) nilM)) (rdM 29)), Ar.dt (vrM 4)]) (lstM (consM (M.pure (PyData.str (Str.ofString "NoRegister"))) (consM (negM (M.pure (PyData.int 1))) (consM (M.pure (PyData.bool true)) nilM)))))))) (seqM (rtM (M.pure (PyData.bool false))) nxM) nxM
abbrev b22 (T : Nat → Fn) : MS := asM (Pat.nm 31) (un1 tupD (compM (itsU (rdM 18)) [28] (stepM (Pat.nm 28) yesM (elM (un1 tupD (compM (itsU (rdM 28)) [13] (stepM (Pat.nm 13) (tstM (bin neD (bin ixU (rdM 13) (M.pure (PyData.int 0))) (tupM nilM))) (elM (tupM (consM (bin addU (tupM (consM (bin subD (negM (M.pure (PyData.int 1))) (bin ixU (bin ixU (rdM 13) (M.pure (PyData.int 0))) (M.pure (PyData.int 0)))) nilM)) (slM slD (bin ixU (rdM 13) (M.pure (PyData.int 0))) (somePt (M.pure (PyData.int 1))) noPt)) (consM (bin ixU (rdM 13) (M.pure (PyData.int 1))) nilM)))))))))))
abbrev b23 (T : Nat → Fn) : MS := asM (Pat.nm 31) (un1 tupD (compM (itsU (rdM 31)) [28] (stepM (Pat.nm 28) yesM (elM (callM (T 42) [Md.dt] [Ar.dt (un1 listD (rdM 28))])))))
abbrev b24 (T : Nat → Fn) : MS := ifM (notT (truM (callM (T 34) [Md.dt, Md.dt] [Ar.dt (lstM (consM (callM (T 20) [Md.dt, Md.dt] [Ar.dt (vrM 31), Ar.dt (vrM 18)]) (consM (callM (T 21) [Md.dt, Md.dt] [Ar.dt (vrM 31), Ar.dt (tupM (consM (M.pure (PyData.int 2)) (consM (M.pure (PyData.int 1)) nilM)))]) (consM (callM (T 26) [Md.dt] [Ar.dt (vrM 31)]) nilM)))), Ar.dt (lstM (consM (un1 tupD (compM (overM zipDs (consM (vrM 31) (consM (vrM 18) nilM))) [26, 27] (stepM (Pat.tp [Pat.nm 26, Pat.nm 27]) yesM (elM (callM (T 42) [Md.dt] [Ar.dt (bin addU (un1 listD (rdM 26)) (un1 listD (rdM 27)))]))))) (consM (un1 tupD (compM (itsU (rdM 31)) [28] (stepM (Pat.nm 28) yesM (elM (un1 tupD (compM (itsU (rdM 28)) [12, 13] (stepM (Pat.tp [Pat.nm 12, Pat.nm 13]) yesM (elM (tupM (consM (vrM 12) (consM (callM (T 39) [Md.dt, Md.dt] [Ar.dt (vrM 13), Ar.dt (tupM (consM (M.pure (PyData.int 2)) (consM (M.pure (PyData.int 1)) nilM)))]) nilM))))))))))) (consM (un1 maxD (bin addU (lstM (consM (M.pure (PyData.int 0)) nilM)) (compM (itsU (callM (T 47) [Md.dt] [Ar.dt (vrM 31)])) [32] (stepM (Pat.nm 32) yesM (elM (un1 lenD (bin ixU (rdM 32) (M.pure (PyData.int 1))))))))) nilM))))]))) (seqM (rtM (M.pure (PyData.bool false))) nxM) nxM
abbrev b25 (T : Nat → Fn) : MS := par2 12 33 false false (callM (T 44) [Md.io, Md.dt, Md.dt] [Ar.nm 1, Ar.dt (vrM 3), Ar.dt (M.pure (PyData.int 4))]) (callM (T 44) [Md.io, Md.dt, Md.dt] [Ar.nm 1, Ar.dt (vrM 3), Ar.dt (M.pure (PyData.int 2))])
abbrev b26 (T : Nat → Fn) : MS := forM' (itsU (tupM (consM (vrM 12) (consM (bin addU (rdM 12) (rdM 33)) (consM (vrM 33) nilM))))) (Pat.nm 34) (seqM (asM (Pat.nm 35) (andM (bin eqD (slM slD (rdM 34) (somePt (bin subD (un1 lenD (rdM 34)) (un1 lenD (rdM 33)))) noPt) (rdM 33)) (bin geD (un1 lenD (rdM 34)) (un1 lenD (rdM 33))))) (seqM (ifM (notT (truM (callM (T 34) [Md.dt, Md.dt] [Ar.dt (callM (T 27) [Md.dt, Md.dt] [Ar.dt (callM (T 35) [Md.dt] [Ar.dt (vrM 34)]), Ar.dt (callM (T 35) [Md.dt] [Ar.dt (vrM 33)])]), Ar.dt (iteM (truM (rdM 35)) (slM slD (rdM 34) noPt (somePt (bin subD (un1 lenD (rdM 34)) (un1 lenD (rdM 33))))) (M.pure PyData.none))]))) (seqM (rtM (M.pure (PyData.bool false))) nxM) nxM) nxM))
abbrev b27 (T : Nat → Fn) : MS := asM (Pat.nm 36) (lstM (consM (callM (T 10) [Md.dt, Md.dt] [Ar.dt (vrM 12), Ar.dt (vrM 3)]) (consM (callM (T 11) [Md.dt, Md.dt] [Ar.dt (vrM 7), Ar.dt (vrM 3)]) (consM (callM (T 12) [Md.dt, Md.dt, Md.dt] [Ar.dt (vrM 18), Ar.dt (vrM 4), Ar.dt (vrM 3)]) (consM (callM (T 12) [Md.dt, Md.dt, Md.dt] [Ar.dt (vrM 18), Ar.dt (bin addU (rdM 4) (M.pure (PyData.int 1))), Ar.dt (vrM 3)]) (consM (callM (T 10) [Md.dt, Md.dt] [Ar.dt (bin addU (rdM 12) (tupM (consM (vrM 3) nilM))), Ar.dt (vrM 3)]) (consM (callM (T 11) [Md.dt, Md.dt] [Ar.dt (tupM nilM), Ar.dt (M.pure (PyData.int 0))]) (consM (callM (T 12) [Md.dt, Md.dt, Md.dt] [Ar.dt (bin mulD (tupM (consM (tupM nilM) nilM)) (rdM 4)), Ar.dt (vrM 4), Ar.dt (M.pure (PyData.int 0))]) nilM))))))))
abbrev b28 (T : Nat → Fn) : MS := ifM (orT (tstM (bin neD (rdM 36) (lstM (consM (M.pure (PyData.bool true)) (consM (M.pure (PyData.bool true)) (consM (M.pure (PyData.bool true)) (consM (M.pure (PyData.bool false)) (consM (M.pure (PyData.bool false)) (consM (M.pure (PyData.bool true)) (consM (M.pure (PyData.bool true)) nilM)))))))))) (orT (tstM (bin neD (compM (itsU (callM (T 46) [Md.io, Md.dt] [Ar.nm 1, Ar.dt (vrM 7)])) [37] (stepM (Pat.nm 37) (truM (callM (T 11) [Md.dt, Md.dt] [Ar.dt (vrM 37), Ar.dt (vrM 3)])) (elM (vrM 37)))) (lstM nilM))) (tstM (bin neD (compM (itsU (callM (T 46) [Md.io, Md.dt] [Ar.nm 1, Ar.dt (vrM 7)])) [37] (stepM (Pat.nm 37) (truM (callM (T 12) [Md.dt, Md.dt, Md.dt] [Ar.dt (bin addU (tupM (consM (vrM 37) nilM)) (slM slD (rdM 18) (somePt (M.pure (PyData.int 1))) noPt)), Ar.dt (vrM 4), Ar.dt (vrM 3)])) (elM (vrM 37)))) (lstM nilM))))) (seqM (rtM (M.pure (PyData.bool false))) nxM) nxM
abbrev b29 (T : Nat → Fn) : MS := ifM (orT (tstM (bin neD (compM (itsU (tupM (consM (un1 listD (rdM 12)) (consM (M.pure PyData.none) (consM (M.pure (PyData.int 0)) (consM (tupM (consM (M.pure (PyData.bool true)) nilM)) (consM (tupM (consM (negM (M.pure (PyData.int 1))) nilM)) (consM (bin addU (rdM 12) (tupM (consM (M.pure PyData.none) nilM))) (consM (M.pure (PyData.str (Str.ofString "0"))) nilM))))))))) [37] (stepM (Pat.nm 37) (truM (callM (T 10) [Md.dt, Md.dt] [Ar.dt (vrM 37), Ar.dt (vrM 3)])) (elM (vrM 37)))) (lstM nilM))) (orT (truM (callM (T 12) [Md.dt, Md.dt, Md.dt] [Ar.dt (un1 listD (rdM 18)), Ar.dt (vrM 4), Ar.dt (vrM 3)])) (truM (callM (T 12) [Md.dt, Md.dt, Md.dt] [Ar.dt (M.pure PyData.none), Ar.dt (M.pure (PyData.int 1)), Ar.dt (M.pure (PyData.int 1))])))) (seqM (rtM (M.pure (PyData.bool false))) nxM) nxM
abbrev turnB (T : Nat → Fn) : MS := seqM (b1 T) (seqM (b2 T) (seqM (b3 T) (seqM (b4 T) (seqM (b5 T) (seqM (b6 T) (seqM (b7 T) (seqM (b8 T) (seqM (b9 T) (seqM (b10 T) (seqM (b11 T) (seqM (b12 T) (seqM (b13 T) (seqM (b14 T) (seqM (b15 T) (seqM (b16 T) (seqM (b17 T) (seqM (b18 T) (seqM (b19 T) (seqM (b20 T) (seqM (b21 T) (seqM (b22 T) (seqM (b23 T) (seqM (b24 T) (seqM (b25 T) (seqM (b26 T) (seqM (b27 T) (seqM (b28 T) (seqM (b29 T) nxM))))))))))))))))))))))))))))
theorem f48_eq (T : Nat → Fn) : f48 T = seqM (bx0 T) (seqM (forM' (overM rng1D (consM (M.pure (PyData.int 5)) nilM)) (Pat.nm 2) (turnB T)) (seqM (rtM (M.pure (PyData.bool true))) nxM)) := rfl

def Frm (ρ : Env) : Prop := ∀ j, j ≠ 1 → (ρ j).isM = false
theorem Frm.n {ρ : Env} (f : Frm ρ) (j : Nat) (h : j ≠ 1) : notIo (ρ j) = true := notIo_of (f j h)
theorem fr_put {ρ : Env} {x : Nat} {d : D} (f : Frm ρ) : Frm (ρ.put x (.im d)) := fun j h => by
  show (if j = x then Sl.im d else ρ j).isM = false
  split
  · rfl
  · exact f j h
theorem fr_box {ρ : Env} {s : Sl} (f : Frm ρ) : Frm (ρ.put 1 s) := fun j h => by
  show (if j = 1 then s else ρ j).isM = false
  rw [if_neg h]
  exact f j h
theorem one_to {d : Int} {m : Nat} (h0 : 0 ≤ d) (h1 : d < (m : Nat)) : ∃ k : Nat, 1 + d = (k : Int) ∧ 1 ≤ k ∧ k ≤ m := ⟨(1 + d).toNat, by omega, by omega, by omega⟩
section
variable {T : Nat → Fn} {ρ : Env} {t : D} {n : Nat}
theorem b1_run (A : AllOk T) (h1 : ρ 1 = .mu t) (ht : Tin t n) (hn : n ≤ 900000) (f : Frm ρ) : ∃ (k s : Nat) (t' : D), b1 T ρ = .ok .nx (((ρ.put 1 (.mu t')).put 3 (.im (.int (k : Nat)))).put 4 (.im (.int (s : Nat)))) ∧ 1 ≤ k ∧ k ≤ 3 ∧ 1 ≤ s ∧ s ≤ 3 ∧ Tin t' (n + 2) := by
  obtain ⟨d, t1, c1, d0, d1, ht1⟩ := A.o31 t n 3 ht (by omega) (by omega) (by omega)
  obtain ⟨e, t2, c2, e0, e1, ht2⟩ := A.o31 t1 (n + 1) 3 ht1 (by omega) (by omega) (by omega)
  obtain ⟨k, hk, k0, k1⟩ := one_to (m := 3) d0 d1
  obtain ⟨s, hs, s0, s1⟩ := one_to (m := 3) e0 e1
  have dr1 := draw_run (ρ := ρ) (i := 1) (m := M.pure (PyData.int 3)) (s := .mu t) h1 rfl (by simp) c1
  have dr2 := draw_run (ρ := ρ.put 1 (.mu t1)) (i := 1) (m := M.pure (PyData.int 3)) (s := .mu t1) rfl rfl (by simp) c2
  refine ⟨k, s, t2, ?_, k0, k1, s0, s1, ht2⟩
  simp [b1, -ev_call, dr1, dr2, szOk, hk, hs, put_put, f.n 3 (by omega), f.n 4 (by omega)]
theorem call45 {k many : Nat} {ps : Q.Mx} {t1 : D} {a b : M D} (h0 : ρ 1 = .mu t) (ha : a ρ = .ok (.int (k : Nat)) ρ) (hb : b ρ = .ok (.int (many : Nat)) ρ) (c : T 45 [t, .int (k : Nat), .int (many : Nat)] = .ok (.list (ps.map eP)) [t1]) : callM (T 45) [Md.io, Md.dt, Md.dt] [Ar.nm 1, Ar.dt a, Ar.dt b] ρ = .ok (.list (ps.map eP)) (ρ.put 1 (.mu t1)) := by
  have se : sees ρ 1 = true := sees_of h0 (by simp)
  simp [se, ha, hb, h0, ocV_ok c]
  unfold upM
  rw [h0]
  rfl
theorem b2_run (A : AllOk T) {k : Nat} (h1 : ρ 1 = .mu t) (ht : Tin t n) (hn : n ≤ 900000) (f : Frm ρ) (h3 : ρ 3 = .im (.int (k : Nat))) (k0 : 1 ≤ k) (k1 : k ≤ 3) : ∃ (near far : Q.Mx) (t' : D), b2 T ρ = .ok .nx (((ρ.put 1 (.mu t')).put 6 (.im (.list (far.map eP)))).put 5 (.im (.list (near.map eP)))) ∧ near.length ≤ 5 ∧ far.length ≤ 4 ∧ PrOk k near ∧ PrOk k far ∧ Tin t' (n + 800) := by
  obtain ⟨near, t1, c1, l1, p1, ht1⟩ := A.o45 t n k 5 ht (by omega) (by omega) (by omega) (by omega)
  obtain ⟨far, t2, c2, l2, p2, ht2⟩ := A.o45 t1 (n + 400) k 4 ht1 (by omega) (by omega) (by omega) (by omega)
  have dr1 := call45 (ρ := ρ) (a := vrM 3) (b := M.pure (PyData.int 5)) h1 (by simp [h3]) (by simp) c1
  have dr2 := call45 (ρ := ρ.put 1 (.mu t1)) (a := vrM 3) (b := M.pure (PyData.int 4)) rfl (by simp [h3]) (by simp) c2
  refine ⟨near, far, t2, ?_, l1, l2, p1, p2, ht2⟩
  simp [b2, -ev_call, dr1, dr2, put_put, f.n 5 (by omega), f.n 6 (by omega)]
theorem mz_pr {k c : Nat} {ps : Q.Mx} (h : PrOk k ps) (hl : ps.length ≤ c) : Mz 3 2 c ps := ⟨hl, fun p hp => (h p hp).1, fun p hp => (h p hp).2.2⟩
theorem b3_run (A : AllOk T) {near far : Q.Mx} (h1 : ρ 1 = .mu t) (ht : Tin t n) (hn : n ≤ 900000) (f : Frm ρ) (h5 : ρ 5 = .im (.list (near.map eP))) (h6 : ρ 6 = .im (.list (far.map eP))) (m1 : Mz 3 2 5 near) (m2 : Mz 3 2 4 far) :
    ∃ (q : Rat) (t' : D), b3 T ρ = .ok .nx ((((ρ.put 1 (.mu t')).put 7 (.im (eM (Q.canon near)))).put 8 (.im (eM (Q.canon far)))).put 9 (.im (eF q))) ∧ Q.Sz 3 q ∧ Tin t' (n + 2) := by
  obtain ⟨d, t1, c1, d0, d1, ht1⟩ := A.o31 t n 7 ht (by omega) (by omega) (by omega)
  obtain ⟨e, t2, c2, e0, e1, ht2⟩ := A.o31 t1 (n + 1) 4 ht1 (by omega) (by omega) (by omega)
  have dr1 := draw_run (ρ := ρ) (i := 1) (m := M.pure (PyData.int 7)) (s := .mu t) h1 rfl (by simp) c1
  have dr2 := draw_run (ρ := ρ.put 1 (.mu t1)) (i := 1) (m := M.pure (PyData.int 4)) (s := .mu t1) rfl rfl (by simp) c2
  have ca := A.o42 _ 2 near (.inl rfl) (m1.bnd (by omega)) (by have := m1.len; omega)
  have cb := A.o42 _ 2 far (.inl rfl) (m2.bnd (by omega)) (by have := m2.len; omega)
  have z0 : 1 + e ≠ 0 := by omega
  have s1 : (d - 3).natAbs < 2 ^ 3 := by omega
  have s2 : (1 + e).natAbs < 2 ^ 3 := by omega
  have c3 := A.o37 (d - 3) (1 + e) z0 (Nat.lt_of_lt_of_le s1 (Nat.pow_le_pow_right (by omega) (by omega))) (Nat.lt_of_lt_of_le s2 (Nat.pow_le_pow_right (by omega) (by omega)))
  refine ⟨Rat.divInt (d - 3) (1 + e), t2, ?_, Q.sz_divInt z0 s1 s2, ht2⟩
  have k1 : callM (T 42) [Md.dt] [Ar.dt (vrM 5)] ρ = .ok (eM (Q.canon near)) ρ := by simp [h5, ocV_ok ca]
  have k2 : callM (T 42) [Md.dt] [Ar.dt (vrM 6)] ρ = .ok (eM (Q.canon far)) ρ := by simp [h6, ocV_ok cb]
  have k3 : callM (T 37) [Md.dt, Md.dt] [Ar.dt (bin subD (callM (T 31) [Md.io, Md.dt] [Ar.nm 1, Ar.dt (M.pure (PyData.int 7))]) (M.pure (PyData.int 3))), Ar.dt (bin addU (M.pure (PyData.int 1)) (callM (T 31) [Md.io, Md.dt] [Ar.nm 1, Ar.dt (M.pure (PyData.int 4))]))] ρ = .ok (eF (Rat.divInt (d - 3) (1 + e))) (ρ.put 1 (.mu t2)) := by
    rw [ev_call, arM_dt, ev_bin, dr1]
    simp [-ev_call, dr2, ocV_ok c3, put_put]
  simp [b3, -ev_call, k1, k2, k3, szOk, f.n 7 (by omega), f.n 8 (by omega), f.n 9 (by omega)]
/-- equal lists: the test goes on -/
theorem same_run (A : AllOk T) {x y : M D} {d : D} (hx : x ρ = .ok d ρ) (hy : y ρ = .ok d ρ) (hg : good 6 d = true) : ifM (notT (truM (callM (T 34) [Md.dt, Md.dt] [Ar.dt x, Ar.dt y]))) (seqM (rtM (M.pure (PyData.bool false))) nxM) nxM ρ = .ok .nx ρ := by
  have c := A.o34 d hg
  simp [hx, hy, ocV_ok c]
/-- what is told of the drawn MIXES -/
structure Dr (k : Nat) (near far one other : Q.Mx) (q : Rat) : Prop where
  k0 : 1 ≤ k
  k1 : k ≤ 3
  pn : PrOk k near
  pf : PrOk k far
  ln : near.length ≤ 5
  lf : far.length ≤ 4
  e1 : one = Q.canon near
  e2 : other = Q.canon far
  sq : Q.Sz 3 q
section
variable {k : Nat} {near far one other : Q.Mx} {q : Rat}
theorem Dr.m1 (d : Dr k near far one other q) : Mz 3 16 5 one := by rw [d.e1]; exact (mz_pr d.pn d.ln).canon
theorem Dr.m2 (d : Dr k near far one other q) : Mz 3 13 4 other := by rw [d.e2]; exact (mz_pr d.pf d.lf).canon
theorem Dr.mn (d : Dr k near far one other q) : Mz 3 2 5 near := mz_pr d.pn d.ln
theorem Dr.mf (d : Dr k near far one other q) : Mz 3 2 4 far := mz_pr d.pf d.lf
def got1 (one other : Q.Mx) (q : Rat) : D := .list [eM one, eM (Q.canon (one ++ other)), eM (Q.canon (scale one q)), eM (Q.canon (prodL one other)), eM (Q.canon (turnM one)), .tuple []]
theorem good_of_M {L n c : Nat} {m : Q.Mx} (h : Mz L n c m) (a : L ≤ 8000000) (b : c ≤ 16777216) : good 5 (eM m) = true := good_up (good_M (h.Ln a) (Nat.le_trans h.len b)) (by omega)
theorem good_lst {n : Nat} {xs : List D} (h : xs.length ≤ 16777216) (k : ∀ x ∈ xs, good n x = true) : good (n + 1) (.list xs) = true := good_list h k
theorem Dr.g1 (d : Dr k near far one other q) : good 6 (got1 one other q) = true := by
  refine good_list (n := 5) (by simp) fun x hx => ?_
  simp only [List.mem_cons, List.not_mem_nil, or_false] at hx
  rcases hx with rfl | rfl | rfl | rfl | rfl | rfl
  · exact good_of_M d.m1 (by omega) (by omega)
  · exact good_of_M (d.m1.app d.m2).canon (by omega) (by omega)
  · exact good_of_M (d.m1.scale d.sq).canon (by omega) (by omega)
  · exact good_of_M (d.m1.prod d.m2).canon (by omega) (by omega)
  · exact good_of_M d.m1.turn.canon (by omega) (by omega)
  · rfl
theorem b4_run (A : AllOk T) (d : Dr k near far one other q) (f : Frm ρ) (h5 : ρ 5 = .im (.list (near.map eP))) (h7 : ρ 7 = .im (eM one)) (h8 : ρ 8 = .im (eM other)) (h9 : ρ 9 = .im (eF q)) : b4 T ρ = .ok .nx (ρ.put 10 (.im (got1 one other q))) := by
  have gm1 := d.m1.rd (by omega) (by omega)
  have gm2 := d.m2.rd (by omega) (by omega)
  have gn : Rd4 (.list (near.map eP)) near := rd_list (d.mn.Ln (by omega)) (by have := d.ln; omega)
  have x1 := A.o35 _ gn.1
  have x2 := A.o35 _ gm1.1
  have x3 := A.o35 (eF q) (good_up (good_F q) (by omega))
  have x4 := A.o35 _ gm2.1
  have c1 := A.o14 _ 2 near (rd_lists gn).1 (rd_lists gn).2 (d.mn.bnd (by omega))
  have c2 := A.o16 _ _ _ one other (rd_lists gm1) gm2 (d.m1.Ln (by omega)) (d.m2.Ln (by omega)) ((d.m1.app d.m2).bnd (by omega))
  have c3 := A.o17 (eM one) (lD (eF q)) _ one q gm1 (by rw [good_lD]; exact good_up (good_F q) (by omega)) (by rw [tD_lD, tD_F]) (d.m1.Ln (by omega)) (d.m1.sm (by omega)) (d.sq.mono (by omega)) ((d.m1.scale d.sq).bnd (by omega))
  have c4 := A.o18 _ _ _ one other gm1 (rd_lists gm2) (d.m1.Ln (by omega)) (d.m2.Ln (by omega)) (d.m1.sm (by omega)) (d.m2.sm (by omega)) ((d.m1.prod d.m2).bnd (by omega))
  have c5 := A.o28 _ _ one (rd_lists gm1) (d.m1.Ln (by omega)) (d.m1.turn.bnd (by omega))
  have c6 := A.o14 (.tuple []) 0 [] rfl rfl ⟨fun p hp => (by cases hp), by simp⟩
  have e6 : eM (Q.canon []) = .tuple [] := by
    have : Q.canon [] = [] := by simp [Q.canon, Q.dd, Q.keys, Q.srtW]
    rw [this]
    rfl
  rw [e6] at c6
  rw [← d.e1] at c1
  simp [b4, h5, h7, h8, h9, szOk, ocV_ok x1, ocV_ok x2, ocV_ok x3, ocV_ok x4, ocV_ok c1, ocV_ok c2, ocV_ok c3, ocV_ok c4, ocV_ok c5, ocV_ok c6, f.n 10 (by omega), got1]
theorem b5_run (A : AllOk T) (d : Dr k near far one other q) (f : Frm ρ) (h7 : ρ 7 = .im (eM one)) (h8 : ρ 8 = .im (eM other)) (h9 : ρ 9 = .im (eF q)) : b5 T ρ = .ok .nx (ρ.put 11 (.im (got1 one other q))) := by
  have l1 : one.length ≤ 5 := d.m1.len
  have l2 : other.length ≤ 4 := d.m2.len
  have li1 : listD (eM one) = some (.list (one.map eP)) := rfl
  have li2 : listD (eM other) = some (.list (other.map eP)) := rfl
  have ad : addU (.list (one.map eP)) (.list (other.map eP)) = some (.list ((one ++ other).map eP)) := by
    rw [add_list (szOk_of (by simp; omega)), List.map_append]
  have c2 := A.o42 _ _ (one ++ other) (.inl rfl) ((d.m1.app d.m2).bnd (by omega)) (by simp; omega)
  have c3 := A.o42 _ _ (scale one q) (.inl rfl) ((d.m1.scale d.sq).bnd (by omega)) (by have := (d.m1.scale d.sq).len; omega)
  have c4 := A.o43 (eM one) (eM other) _ one other (.inr rfl) (.inr rfl) (d.m1.Ln (by omega)) (d.m2.Ln (by omega)) (d.m1.sm (by omega)) (d.m2.sm (by omega)) ((d.m1.prod d.m2).bnd (by omega)) (by have := (d.m1.prod d.m2).len; omega)
  have c5 := A.o42 _ _ (turnM one) (.inl rfl) (d.m1.turn.bnd (by omega)) (by have := d.m1.turn.len; omega)
  have s3 : ρ 12 = .un ∨ True := .inr trivial
  have k3 := comp_map (ρ := ρ) (src := itsU (rdM 7)) (js := [12, 13]) (step := stepM (Pat.tp [Pat.nm 12, Pat.nm 13]) yesM (elM (tupM (consM (vrM 12) (consM (callM (T 39) [Md.dt, Md.dt] [Ar.dt (vrM 13), Ar.dt (vrM 9)]) nilM)))))
    one eP (fun p => eP (p.1, p.2 * q)) (by simp [h7, eM]) (by simp [nonM, f 12 (by omega), f 13 (by omega)]) (szOk_of (by omega)) (fun p hp => ⟨_, by simp [h9, ocV_ok (A.o39 p.2 q ((d.m1.sz p hp).mono (by omega)) (d.sq.mono (by omega))), szOk]; exact ⟨rfl, rfl⟩, agr_put (agr_put agr_wipe rfl) rfl⟩)
  have e3 : one.map (fun p => eP (p.1, p.2 * q)) = (scale one q).map eP := by unfold scale; rw [List.map_map]; rfl
  rw [e3] at k3
  have k5 := comp_map (ρ := ρ) (src := itsU (rdM 7)) (js := [12, 13]) (step := stepM (Pat.tp [Pat.nm 12, Pat.nm 13]) yesM (elM (tupM (consM (un1 rvD (rdM 12)) (consM (vrM 13) nilM)))))
    one eP (fun p => eP (p.1.reverse, p.2)) (by simp [h7, eM]) (by simp [nonM, f 12 (by omega), f 13 (by omega)]) (szOk_of (by omega)) (fun p hp => ⟨_, by simp [szOk]; exact ⟨rfl, rfl⟩, agr_put (agr_put agr_wipe rfl) rfl⟩)
  have e5 : one.map (fun p => eP (p.1.reverse, p.2)) = (turnM one).map eP := by unfold turnM; rw [List.map_map]; rfl
  rw [e5] at k5
  simp [b5, h7, h8, h9, szOk, li1, li2, ad, ocV_ok c2, k3, ocV_ok c3, ocV_ok c4, k5, ocV_ok c5, f.n 11 (by omega), got1, -List.map_append]
end
end
end Rf
end
section
set_option Elab.async false
set_option linter.all false
set_option maxRecDepth 100000
set_option maxHeartbeats 4000000
/-! S20: the law's turn: powers, terms, SUMS. -/
namespace Rf
open PySem PySem.Spec L2
section
variable {T : Nat → Fn} {ρ : Env} {t : D} {n : Nat}
theorem pw0_eq (m : Q.Mx) : PyData.tuple [.tuple [.tuple [], .tuple [.int 1, .int 1]]] = eM (pw m 0) := by unfold pw eM eP eW eF; rfl
theorem b7_run (A : AllOk T) (m : Q.Mx) (h1 : ρ 1 = .mu t) (ht : Tin t n) (hn : n ≤ 900000) (f : Frm ρ) : ∃ (much : Nat) (t' : D), b7 T ρ = .ok .nx (((ρ.put 1 (.mu t')).put 15 (.im (.int (much : Nat)))).put 14 (.im (eM (pw m 0)))) ∧ much ≤ 3 ∧ Tin t' (n + 1) := by
  obtain ⟨d, t1, c1, d0, d1, ht1⟩ := A.o31 t n 4 ht (by omega) (by omega) (by omega)
  obtain ⟨k, rfl⟩ : ∃ m : Nat, d = m := ⟨d.toNat, by omega⟩
  have dr1 := draw_run (ρ := ρ) (i := 1) (m := M.pure (PyData.int 4)) (s := .mu t) h1 rfl (by simp) c1
  refine ⟨k, t1, ?_, by omega, ht1⟩
  simp [b7, -ev_call, dr1, szOk, pw0_eq m, f.n 14 (by omega), f.n 15 (by omega)]
theorem sl_pre (m : Q.Mx) (k : Nat) : slD (eM m) none (some (k : Int)) = some (eM (m.take k)) := by
  show some (PyData.tuple (cutDs (m.map eP) none (some (k : Int)))) = _
  by_cases h : k ≤ m.length
  · rw [cut_take eP m k h]
    rfl
  · unfold cutDs
    rw [HT.sIx_none, HT.sIx_nat, List.length_map, Nat.min_eq_right (by omega), List.take_of_length_le (by simp), List.take_of_length_le (by omega)]
    rfl
theorem mz_pw0 (m : Q.Mx) : Mz 0 1 1 (pw m 0) := ⟨by unfold pw; simp, fun p hp => by
  unfold pw at hp
  rw [List.mem_singleton.mp hp]
  exact Nat.le_refl 0, fun p hp => by
  unfold pw at hp
  rw [List.mem_singleton.mp hp]
  exact ⟨by decide, by decide⟩⟩
theorem mz_pw {m : Q.Mx} (h : Mz 3 16 2 m) : ∀ j, j ≤ 3 → Mz 9 1873 8 (pw m j) ∧ (j < 3 → Mz 9 233 8 (prodL (pw m j) m)) := by
  have p0 := (mz_pw0 m).prod h
  have q1 : Mz 3 37 2 (pw m 1) := by
    rw [pw_succ]
    exact p0.canon.mono (by omega) (by omega) (by omega)
  have p1 := q1.prod h
  have q2 : Mz 6 217 4 (pw m 2) := by
    rw [pw_succ]
    exact p1.canon.mono (by omega) (by omega) (by omega)
  have p2 := q2.prod h
  have q3 : Mz 9 1873 8 (pw m 3) := by
    rw [pw_succ]
    exact p2.canon.mono (by omega) (by omega) (by omega)
  intro j hj
  match j, hj with
  | 0, _ => exact ⟨(mz_pw0 m).mono (by omega) (by omega) (by omega), fun _ => p0.mono (by omega) (by omega) (by omega)⟩
  | 1, _ => exact ⟨q1.mono (by omega) (by omega) (by omega), fun _ => p1.mono (by omega) (by omega) (by omega)⟩
  | 2, _ => exact ⟨q2.mono (by omega) (by omega) (by omega), fun _ => p2.mono (by omega) (by omega) (by omega)⟩
  | 3, _ => exact ⟨q3, fun z => absurd z (by omega)⟩
theorem pw_ok {m : Q.Mx} (h : Mz 3 16 2 m) {k : Nat} (hk : k ≤ 3) : PwOk m k := fun j hj => by
  obtain ⟨a, b⟩ := mz_pw h j (by omega)
  exact ⟨⟨233, (b (by omega)).bnd (by omega)⟩, a.Ln (by omega), a.sm (by omega), Nat.le_trans a.len (by omega)⟩
theorem b8_run (A : AllOk T) {one : Q.Mx} {much : Nat} (hm : Mz 3 16 2 (one.take 2)) (hk : much ≤ 3) (f : Frm ρ) (h7 : ρ 7 = .im (eM one)) (h14 : ρ 14 = .im (eM (pw (one.take 2) 0))) (h15 : ρ 15 = .im (.int (much : Nat))) :
    ∃ ρ', b8 T ρ = .ok .nx ρ' ∧ ρ' 14 = .im (eM (pw (one.take 2) much)) ∧ (∀ j, j ≠ 14 → j ≠ 16 → ρ' j = ρ j) ∧ Frm ρ' := by
  have sl : slD (eM one) none (some 2) = some (eM (one.take 2)) := sl_pre one 2
  obtain ⟨ρ', e, r14, rj, rf⟩ := for_run (src := overM rng1D (consM (vrM 15) nilM)) (p := .nm 16) (b := seqM (asM (Pat.nm 14) (callM (T 43) [Md.dt, Md.dt] [Ar.dt (vrM 14), Ar.dt (slM slD (rdM 7) noPt (somePt (M.pure (PyData.int 2))))])) nxM) (List.range much) (fun i => PyData.int (i : Nat))
    (fun ws ρ' => ρ' 14 = .im (eM (pw (one.take 2) ws.length)) ∧ (∀ j, j ≠ 14 → j ≠ 16 → ρ' j = ρ j) ∧ Frm ρ') (ρ := ρ) (ρ0 := ρ) (by simp [h15, rng_nat much (by omega)]) ⟨h14, fun _ _ _ => rfl, f⟩ (fun ws x us ρ1 e ⟨r14, rj, rf⟩ => by
      have wl := range_cut e
      obtain ⟨a, b⟩ := mz_pw hm ws.length (by omega)
      have b := b (by omega)
      have c := A.o43 (eM (pw (one.take 2) ws.length)) (eM (one.take 2)) 233 _ _ (.inr rfl) (.inr rfl) (a.Ln (by omega)) (hm.Ln (by omega)) (a.sm (by omega)) (hm.sm (by omega)) (b.bnd (by omega)) (by have := b.len; omega)
      have r7 : ρ1 7 = .im (eM one) := by rw [rj 7 (by omega) (by omega)]; exact h7
      refine ⟨_, (ρ1.put 16 (.im (.int (x : Nat)))).put 14 (.im (eM (pw (one.take 2) (ws.length + 1)))), by simp [rf.n 16 (by omega)]; rfl, by simp [r14, r7, sl, ocV_ok c, rf.n 14 (by omega), pw_succ], by simp, fun j hj hj2 => ?_, fr_put (fr_put rf)⟩
      simp [hj, hj2, rj j hj hj2])
  rw [List.length_range] at r14
  exact ⟨ρ', e, r14, rj, rf⟩
theorem b9_run (A : AllOk T) {one : Q.Mx} {much : Nat} (hm : Mz 3 16 2 (one.take 2)) (hk : much ≤ 3) (h7 : ρ 7 = .im (eM one)) (h14 : ρ 14 = .im (eM (pw (one.take 2) much))) (h15 : ρ 15 = .im (.int (much : Nat))) : b9 T ρ = .ok .nx ρ := by
  have sl : slD (eM one) none (some 2) = some (eM (one.take 2)) := sl_pre one 2
  have rd := hm.rd (by omega) (by omega)
  have x := A.o35 _ rd.1
  have c := A.o19 _ (one.take 2) much (by omega) (rd_lists rd) (hm.Ln (by omega)) (hm.sm (by omega)) (pw_ok hm hk)
  have g := (mz_pw hm much hk).1
  exact same_run A (d := eM (pw (one.take 2) much)) (by simp [h7, h15, sl, ocV_ok x, ocV_ok c]) (by simp [h14]) (good_up (good_M (g.Ln (by omega)) (Nat.le_trans g.len (by omega))) (by omega))
/-! ### terms -/
def prs (ts : List Tm) : Q.Mx := ts.map fun t => (t.1, t.2.2)
theorem b10_run (A : AllOk T) {near far : Q.Mx} {s : Nat} (h1 : ρ 1 = .mu t) (ht : Tin t n) (hn : n ≤ 900000) (f : Frm ρ) (h4 : ρ 4 = .im (.int (s : Nat))) (s0 : 1 ≤ s) (s1 : s ≤ 3) (h5 : ρ 5 = .im (.list (near.map eP))) (h6 : ρ 6 = .im (.list (far.map eP))) (ln : near.length ≤ 5) (lf : far.length ≤ 4) :
    ∃ (ts : List Tm) (t' : D), b10 T ρ = .ok .nx ((ρ.put 1 (.mu t')).put 17 (.im (.list (ts.map eT)))) ∧ prs ts = near ++ far ∧ Good ts s ∧ Tin t' (n + 9) := by
  have ad : addU (.list (near.map eP)) (.list (far.map eP)) = some (.list ((near ++ far).map eP)) := by
    rw [add_list (szOk_of (by simp; omega)), List.map_append]
  obtain ⟨zs, ρ', z1, z2, e, t2, i1, i2⟩ := comp_st (β := Tm) (src := itsU (bin addU (rdM 5) (rdM 6))) (js := [12, 13]) (step := stepM (Pat.tp [Pat.nm 12, Pat.nm 13]) yesM (elM (tupM (consM (vrM 12) (consM (callM (T 31) [Md.io, Md.dt] [Ar.nm 1, Ar.dt (vrM 4)]) (consM (vrM 13) nilM))))))
    (ρ := ρ) (ρ1 := ρ) (near ++ far) eP eT (fun j ρ' => ∃ t', Tin t' (n + j) ∧ ρ' = ρ.put 1 (.mu t')) (fun x y => (y.1, y.2.2) = x ∧ 0 ≤ y.2.1 ∧ y.2.1 < s) (by simp [h5, h6, ad, -List.map_append]) (by simp [nonM, f 12 (by omega), f 13 (by omega)]) (by simp; omega)
    ⟨t, ht, by funext j; show ρ j = if j = 1 then Sl.mu t else ρ j; split <;> simp_all⟩ (fun x hx j ρ1 hj ⟨t', ht', er⟩ => by
        rw [List.length_append] at hj
        obtain ⟨d', t2, c2, q0, q1, ht2⟩ := A.o31 t' (n + j) (s : Nat) ht' (by omega) (by omega) (by omega)
        have r1 : ρ1 1 = .mu t' := by rw [er]; rfl
        have r4 : ρ1 4 = .im (.int (s : Nat)) := by rw [er]; simpa using h4
        have dr := draw_run (ρ := ((wipeE ρ1 [12, 13]).put 12 (.im (eW x.1))).put 13 (.im (eF x.2))) (i := 1) (m := vrM 4) (s := .mu t') (by simp [r1]) rfl (by simp [r4]) c2
        refine ⟨(x.1, d', x.2), (((wipeE ρ1 [12, 13]).put 12 (.im (eW x.1))).put 13 (.im (eF x.2))).put 1 (.mu t2), by rw [ev_step]; simp [-ev_call, dr, szOk, eT], ⟨rfl, q0, q1⟩, t2, ht2.mono (by omega), ?_⟩
        rw [rest_put (i := 1) (s := .mu t2)]
        · rw [er, put_put]
        · exact agr_both (agr_put (agr_put agr_wipe rfl) rfl)
        · rfl)
  refine ⟨zs.map (·.2), t2, ?_, ?_, fun y hy => ?_, i1.mono (by rw [List.length_append]; omega)⟩
  · rw [i2] at e
    have em : zs.map (fun z => eT z.2) = (zs.map (·.2)).map eT := by rw [List.map_map]; rfl
    rw [em] at e
    simp [b10, e, f.n 17 (by omega), -List.map_map]
  · rw [← z1]
    unfold prs
    rw [List.map_map]
    exact List.map_congr_left fun z hz => (z2 z hz).1
  · obtain ⟨z, hz, rfl⟩ := List.mem_map.mp hy
    exact (z2 z hz).2
def lnOf (ts : List Tm) (s : Nat) : List Q.Mx := (List.range s).map fun (i : Nat) => Q.canon (sel ts (i : Int))
theorem sel_mem {ts : List Tm} {i : Int} {p : Q.W × Rat} (h : p ∈ sel ts i) : p ∈ prs ts := by
  unfold sel at h
  obtain ⟨t, ht, rfl⟩ := List.mem_map.mp h
  exact List.mem_map.mpr ⟨t, (List.mem_filter.mp ht).1, rfl⟩
theorem sel_len (ts : List Tm) (i : Int) : (sel ts i).length ≤ ts.length := by
  unfold sel
  rw [List.length_map]
  exact List.length_filter_le _ _
theorem mz_sel {L n c : Nat} {ts : List Tm} (h : Mz L n c (prs ts)) (i : Int) : Mz L n c (sel ts i) :=
  ⟨Nat.le_trans (sel_len ts i) (by have := h.len; unfold prs at this; rwa [List.length_map] at this), fun p hp => h.ln p (sel_mem hp), fun p hp => h.sz p (sel_mem hp)⟩
theorem b11_run (A : AllOk T) {ts : List Tm} {s : Nat} (f : Frm ρ) (h4 : ρ 4 = .im (.int (s : Nat))) (s1 : s ≤ 3) (h17 : ρ 17 = .im (.list (ts.map eT))) (mt : Mz 3 2 9 (prs ts)) : b11 T ρ = .ok .nx (ρ.put 18 (.im (eL (lnOf ts s)))) := by
  have hl : ts.length ≤ 9 := by have := mt.len; unfold prs at this; rwa [List.length_map] at this
  have cc := comp_map (ρ := ρ) (src := overM rng1D (consM (vrM 4) nilM)) (js := [20]) (step := stepM (Pat.nm 20) yesM (elM (callM (T 42) [Md.dt] [Ar.dt (compM (itsU (rdM 17)) [12, 19, 13] (stepM (Pat.tp [Pat.nm 12, Pat.nm 19, Pat.nm 13]) (tstM (bin eqD (rdM 19) (rdM 20))) (elM (tupM (consM (vrM 12) (consM (vrM 13) nilM))))))])))
    (List.range s) (fun i => PyData.int (i : Nat)) (fun (i : Nat) => eM (Q.canon (sel ts (i : Int)))) (by simp [h4, rng_nat s (by omega)]) (by simp [nonM, f 20 (by omega)]) (szOk_of (by simp; omega)) (fun i hi => by
      have cf := comp_filt (ρ := (wipeE ρ [20]).put 20 (.im (.int (i : Nat)))) (src := itsU (rdM 17)) (js := [12, 19, 13]) (step := stepM (Pat.tp [Pat.nm 12, Pat.nm 19, Pat.nm 13]) (tstM (bin eqD (rdM 19) (rdM 20))) (elM (tupM (consM (vrM 12) (consM (vrM 13) nilM)))))
        ts eT (fun t => eP (t.1, t.2.2)) (fun t => t.2.1 == (i : Int)) (by simp [h17]) (by simp [nonM, f 12 (by omega), f 19 (by omega), f 13 (by omega)]) (szOk_of (by omega)) (fun t ht => by
          cases eb : (t.2.1 == (i : Int))
          · have eb' : ¬ t.2.1 = (i : Int) := by simpa using eb
            exact ⟨_, by simp [eT, eq_int, eb']; rfl, agr_put (agr_put (agr_put agr_wipe rfl) rfl) rfl⟩
          · have eb' : t.2.1 = (i : Int) := by simpa using eb
            exact ⟨_, by simp [eT, eq_int, eb', szOk]; exact ⟨rfl, rfl⟩, agr_put (agr_put (agr_put agr_wipe rfl) rfl) rfl⟩)
      have es : (ts.filter fun t => t.2.1 == (i : Int)).map (fun t => eP (t.1, t.2.2)) = (sel ts (i : Int)).map eP := by
        unfold sel
        rw [List.map_map]
        rfl
      rw [es] at cf
      have ms := mz_sel mt (i : Int)
      have c := A.o42 _ 2 _ (.inl rfl) (ms.bnd (by omega)) (by have := ms.len; omega)
      exact ⟨_, by simp [cf, ocV_ok c]; rfl, agr_put agr_wipe rfl⟩)
  have e : (List.range s).map (fun (i : Nat) => eM (Q.canon (sel ts (i : Int)))) = (lnOf ts s).map eM := by unfold lnOf; rw [List.map_map]; rfl
  rw [e] at cc
  simp [b11, cc, f.n 18 (by omega), eL]
theorem b12_run (A : AllOk T) {k s : Nat} (h1 : ρ 1 = .mu t) (ht : Tin t n) (hn : n ≤ 900000) (f : Frm ρ) (h3 : ρ 3 = .im (.int (k : Nat))) (k0 : 1 ≤ k) (k1 : k ≤ 3) (h4 : ρ 4 = .im (.int (s : Nat))) (s1 : s ≤ 3) :
    ∃ (ms : List Q.Mx) (t' : D), b12 T ρ = .ok .nx ((ρ.put 1 (.mu t')).put 21 (.im (eL ms))) ∧ ms.length = s ∧ (∀ m ∈ ms, Mz 3 7 2 m) ∧ Tin t' (n + 1200) := by
  obtain ⟨zs, ρ', z1, z2, e, t2, i1, i2⟩ := comp_st (β := Q.Mx) (src := overM rng1D (consM (vrM 4) nilM)) (js := [20]) (step := stepM (Pat.nm 20) yesM (elM (callM (T 42) [Md.dt] [Ar.dt (callM (T 45) [Md.io, Md.dt, Md.dt] [Ar.nm 1, Ar.dt (vrM 3), Ar.dt (M.pure (PyData.int 2))])])))
    (ρ := ρ) (ρ1 := ρ) (List.range s) (fun i => PyData.int (i : Nat)) eM (fun j ρ' => ∃ t', Tin t' (n + j * 400) ∧ ρ' = ρ.put 1 (.mu t')) (fun _ y => Mz 3 7 2 y) (by simp [h4, rng_nat s (by omega)]) (by simp [nonM, f 20 (by omega)]) (by simp; omega)
    ⟨t, ht.mono (by omega), by funext j; show ρ j = if j = 1 then Sl.mu t else ρ j; split <;> simp_all⟩ (fun x hx j ρ1 hj ⟨t', ht', er⟩ => by
        rw [List.length_range] at hj
        obtain ⟨ps, t2, c2, pl, pp, ht2⟩ := A.o45 t' (n + j * 400) k 2 ht' (by omega) (by omega) (by omega) (by omega)
        have r1 : ρ1 1 = .mu t' := by rw [er]; rfl
        have r3 : ρ1 3 = .im (.int (k : Nat)) := by rw [er]; simpa using h3
        have dr := call45 (ρ := (wipeE ρ1 [20]).put 20 (.im (.int (x : Nat)))) (a := vrM 3) (b := M.pure (PyData.int 2)) (by simp [r1]) (by simp [r3]) (by simp) c2
        have mz : Mz 3 2 2 ps := mz_pr pp pl
        have c := A.o42 _ 2 ps (.inl rfl) (mz.bnd (by omega)) (by omega)
        refine ⟨Q.canon ps, ((wipeE ρ1 [20]).put 20 (.im (.int (x : Nat)))).put 1 (.mu t2), ?_, mz.canon.mono (by omega) (by omega) (by omega), t2, ht2.mono (by omega), ?_⟩
        · rw [ev_step]
          simp only [bindP_nm, put_get]
          have nn : notIo (wipeE ρ1 [20] 20) = true := rfl
          rw [nn]
          simp only [if_true, yes_ev, ob_ok, cond_true, ev_el]
          rw [ev_call, arM_dt, dr]
          simp [ocV_ok c]
        · rw [rest_put (i := 1) (s := .mu t2)]
          · rw [er, put_put]
          · exact agr_both (agr_put agr_wipe rfl)
          · rfl)
  rw [List.length_range] at i1
  refine ⟨zs.map (·.2), t2, ?_, ?_, fun y hy => ?_, i1.mono (by omega)⟩
  · rw [i2] at e
    have em : zs.map (fun z => eM z.2) = (zs.map (·.2)).map eM := by rw [List.map_map]; rfl
    rw [em] at e
    simp [b12, e, f.n 21 (by omega), eL, -List.map_map]
  · have := congrArg List.length z1
    rw [List.length_map, List.length_range] at this
    rw [List.length_map]
    exact this
  · obtain ⟨z, hz, rfl⟩ := List.mem_map.mp hy
    exact z2 z hz
theorem b13_run (A : AllOk T) {ls : List Q.Mx} (f : Frm ρ) (h18 : ρ 18 = .im (eL ls)) (hl : (rowsOf ls).length ≤ 16777216) : b13 T ρ = .ok .nx (ρ.put 22 (.im (.list ((sortR (rowsOf ls)).map eR)))) := by
  have c := A.o47 ls hl
  simp [b13, h18, ocV_ok c, srtD_R _ hl, f.n 22 (by omega)]
theorem b14_run {ls : List Q.Mx} (f : Frm ρ) (h22 : ρ 22 = .im (.list ((sortR (rowsOf ls)).map eR))) (hl : (rowsOf ls).length ≤ 16777216) : b14 T ρ = .ok .nx (ρ.put 23 (.im (termsD ls))) := by
  have cc := comp_map (ρ := ρ) (src := itsU (un1 rvD (rdM 22))) (js := [24, 12, 19, 13]) (step := stepM (Pat.tp [Pat.nm 24, Pat.nm 12, Pat.nm 19, Pat.nm 13]) yesM (elM (tupM (consM (vrM 12) (consM (vrM 19) (consM (vrM 13) nilM))))))
    (sortR (rowsOf ls)).reverse eR eT (by simp [h22]) (by simp [nonM, f 24 (by omega), f 12 (by omega), f 19 (by omega), f 13 (by omega)]) (szOk_of (by rw [List.length_reverse, sort_len]; exact hl)) (fun t ht => ⟨_, by simp [eR, szOk]; exact ⟨rfl, rfl⟩, agr_put (agr_put (agr_put (agr_put agr_wipe rfl) rfl) rfl) rfl⟩)
  simp [b14, cc, f.n 23 (by omega), termsD]
end
end Rf
end
section
set_option Elab.async false
set_option linter.all false
set_option maxRecDepth 100000
set_option maxHeartbeats 4000000
/-! S21: the law's turn: SUMS compared. -/
namespace Rf
open PySem PySem.Spec L2
/-! ### how many rows -/
theorem idx_snd {α : Type} : ∀ (k : Nat) (xs : List α), (idx k xs).map (·.2) = xs
  | _, [] => rfl
  | k, x :: xs => by unfold idx; rw [List.map_cons, idx_snd]
theorem flat_idx {α β : Type} (g : α → List β) : ∀ (k : Nat) (xs : List α), (idx k xs).flatMap (fun x => g x.2) = xs.flatMap g
  | _, [] => rfl
  | k, x :: xs => by unfold idx; rw [List.flatMap_cons, List.flatMap_cons, flat_idx g]
theorem rows_lens (ls : List Q.Mx) : (rowsOf ls).map (fun t => ((t.1.length : Nat) : Int)) = lens ls := by
  unfold rowsOf lens
  rw [List.map_flatMap]
  have : ∀ x : Nat × Q.Mx, (x.2.map fun p => (p.1, ((x.1 : Nat) : Int), p.2)).map (fun t : Tm => ((t.1.length : Nat) : Int)) = x.2.map fun p => ((p.1.length : Nat) : Int) := fun x => by rw [List.map_map]; rfl
  simp only [this]
  exact flat_idx (fun m : Q.Mx => m.map fun p => ((p.1.length : Nat) : Int)) 0 ls
theorem rows_lets (ls : List Q.Mx) : (rowsOf ls).flatMap (fun t => t.1) = lets ls := by
  unfold rowsOf lets
  rw [List.flatMap_assoc]
  have : ∀ x : Nat × Q.Mx, (x.2.map fun p => (p.1, ((x.1 : Nat) : Int), p.2)).flatMap (fun t : Tm => t.1) = x.2.flatMap fun p => p.1 := fun x => by
    rw [List.flatMap_map]
  simp only [this]
  exact flat_idx (fun m : Q.Mx => m.flatMap fun p => p.1) 0 ls
theorem rowsOf_len (ls : List Q.Mx) : (rowsOf ls).length = (ls.map List.length).sum := by
  have : ∀ k, ((idx k ls).flatMap fun x => x.2.map fun p => (p.1, ((x.1 : Nat) : Int), p.2)).length = (ls.map List.length).sum := by
    induction ls with
    | nil => intro k; rfl
    | cons m ls ih =>
      intro k
      unfold idx
      rw [List.flatMap_cons, List.length_append, List.length_map, ih, List.map_cons, List.sum_cons]
  exact this 0
theorem len_or (p q : Tm → Bool) (h : ∀ t, p t = true → q t = true → False) : ∀ ts : List Tm, (ts.filter p).length + (ts.filter q).length = (ts.filter fun t => p t || q t).length
  | [] => rfl
  | t :: ts => by
    have ih := len_or p q h ts
    cases hp : p t <;> cases hq : q t
    · simp [List.filter_cons, hp, hq, ih]
    · simp [List.filter_cons, hp, hq]; omega
    · simp [List.filter_cons, hp, hq]; omega
    · exact (h t hp hq).elim
theorem len_mono {p q : Tm → Bool} (h : ∀ t, p t = true → q t = true) : ∀ ts : List Tm, (ts.filter p).length ≤ (ts.filter q).length
  | [] => Nat.le_refl _
  | t :: ts => by
    have ih := len_mono h ts
    cases hp : p t
    · cases hq : q t <;> simp [List.filter_cons, hp, hq] <;> omega
    · simp [List.filter_cons, hp, h t hp]
      omega
theorem sum_sel (ts : List Tm) : ∀ s : Nat, ((List.range s).map fun (i : Nat) => (sel ts (i : Int)).length).sum ≤ (ts.filter fun t => decide (0 ≤ t.2.1) && decide (t.2.1 < (s : Int))).length
  | 0 => by simp
  | s + 1 => by
    have ih := sum_sel ts s
    rw [List.range_succ, List.map_append, List.sum_append]
    have e : (sel ts (s : Int)).length = (ts.filter fun t => t.2.1 == (s : Int)).length := by unfold sel; rw [List.length_map]
    have o := len_or (fun t => decide (0 ≤ t.2.1) && decide (t.2.1 < (s : Int))) (fun t => t.2.1 == (s : Int)) (fun t a b => by
      simp only [Bool.and_eq_true, decide_eq_true_eq, beq_iff_eq] at a b
      omega) ts
    have le : (ts.filter fun t => (decide (0 ≤ t.2.1) && decide (t.2.1 < (s : Int))) || (t.2.1 == (s : Int))).length ≤ (ts.filter fun t => decide (0 ≤ t.2.1) && decide (t.2.1 < ((s + 1 : Nat) : Int))).length := by
      refine len_mono (fun t h => ?_) ts
      simp only [Bool.or_eq_true, Bool.and_eq_true, decide_eq_true_eq, beq_iff_eq] at h ⊢
      omega
    simp only [List.map_cons, List.map_nil, List.sum_cons, List.sum_nil, Nat.add_zero]
    rw [e]
    omega
theorem rows_le (ts : List Tm) (s : Nat) : (rowsOf (lnOf ts s)).length ≤ ts.length := by
  rw [rowsOf_len]
  unfold lnOf
  rw [List.map_map]
  have a : ∀ l : List Nat, (l.map (List.length ∘ fun (i : Nat) => Q.canon (sel ts (i : Int)))).sum ≤ (l.map fun (i : Nat) => (sel ts (i : Int)).length).sum := by
    intro l
    induction l with
    | nil => exact Nat.le_refl _
    | cons i l ih =>
      rw [List.map_cons, List.map_cons, List.sum_cons, List.sum_cons]
      have := Q.canon_len (sel ts (i : Int))
      show (Q.canon (sel ts (i : Int))).length + _ ≤ _
      omega
  exact Nat.le_trans (a _) (Nat.le_trans (sum_sel ts s) (List.length_filter_le _ _))
def tms (ls : List Q.Mx) : List Tm := (sortR (rowsOf ls)).reverse
theorem tms_mem {ls : List Q.Mx} {t : Tm} : t ∈ tms ls ↔ t ∈ rowsOf ls := by
  unfold tms
  rw [List.mem_reverse, (sortR_perm (rowsOf ls)).mem_iff]
theorem tms_len (ls : List Q.Mx) : (tms ls).length = (rowsOf ls).length := by unfold tms; rw [List.length_reverse, sort_len]
theorem tms_max (ls : List Q.Mx) : maxI (0 :: (tms ls).map fun t => ((t.1.length : Nat) : Int)) = maxI (0 :: lens ls) := by
  rw [← rows_lens]
  refine maxI_congr (by simp) fun x => ?_
  simp only [List.mem_cons, List.mem_map, tms_mem]
theorem tms_lets (ls : List Q.Mx) : sI ((tms ls).flatMap fun t => t.1) = sI (lets ls) := by
  rw [← rows_lets]
  refine sI_congr fun x => ?_
  simp only [List.mem_flatMap, tms_mem]
theorem flat_le {ts : List Tm} {L : Nat} (h : ∀ t ∈ ts, t.1.length ≤ L) : (ts.flatMap fun t => t.1).length ≤ ts.length * L := by
  induction ts with
  | nil => simp
  | cons t ts ih =>
    rw [List.flatMap_cons, List.length_append, List.length_cons, Nat.succ_mul]
    have a := h t List.mem_cons_self
    have b := ih fun x hx => h x (List.mem_cons_of_mem _ hx)
    omega
theorem row_word {ls : List Q.Mx} {t : Tm} (h : t ∈ rowsOf ls) : ∃ m ∈ ls, ∃ p ∈ m, p.1 = t.1 := by
  unfold rowsOf at h
  obtain ⟨x, hx, h⟩ := List.mem_flatMap.mp h
  obtain ⟨p, hp, rfl⟩ := List.mem_map.mp h
  have : x.2 ∈ (idx 0 ls).map (·.2) := List.mem_map_of_mem hx
  rw [idx_snd] at this
  exact ⟨x.2, this, p, hp, rfl⟩
/-- what is told of a drawn SUM -/
structure Sm3 (k s : Nat) (ts : List Tm) (ls ms : List Q.Mx) : Prop where
  s1 : s ≤ 3
  s0 : 1 ≤ s
  mt : Mz 3 2 9 (prs ts)
  kt : ∀ p ∈ prs ts, InW k p.1
  gd : Good ts s
  el : ls = lnOf ts s
  lm : ms.length = s
  mm : ∀ m ∈ ms, Mz 3 7 2 m
section
variable {k s : Nat} {ts : List Tm} {ls ms : List Q.Mx}
theorem Sm3.tl (d : Sm3 k s ts ls ms) : ts.length ≤ 9 := by have := d.mt.len; unfold prs at this; rwa [List.length_map] at this
theorem Sm3.ml (d : Sm3 k s ts ls ms) : ∀ m ∈ ls, Mz 3 28 9 m := fun m hm => by
  rw [d.el] at hm
  unfold lnOf at hm
  obtain ⟨i, _, rfl⟩ := List.mem_map.mp hm
  exact (mz_sel d.mt (i : Int)).canon.mono (by omega) (by omega) (by omega)
theorem Sm3.len (d : Sm3 k s ts ls ms) : ls.length = s := by rw [d.el]; unfold lnOf; simp
theorem Sm3.rows (d : Sm3 k s ts ls ms) : (rowsOf ls).length ≤ 9 := by rw [d.el]; exact Nat.le_trans (rows_le ts s) d.tl
theorem Sm3.lets (d : Sm3 k s ts ls ms) : (Rf.lets ls).length < 63 := by
  rw [← rows_lets]
  have := flat_le (ts := rowsOf ls) (L := 3) fun t ht => by
    obtain ⟨m, hm, p, hp, e⟩ := row_word ht
    rw [← e]
    exact (d.ml m hm).ln p hp
  have := d.rows
  omega
theorem Sm3.can (d : Sm3 k s ts ls ms) : ∀ m ∈ ls, Q.IsCan m := fun m hm => by
  rw [d.el] at hm
  unfold lnOf at hm
  obtain ⟨i, _, rfl⟩ := List.mem_map.mp hm
  exact Q.canon_can _
theorem Sm3.inw (d : Sm3 k s ts ls ms) : ∀ m ∈ ls, ∀ p ∈ m, InW k p.1 := fun m hm p hp => by
  rw [d.el] at hm
  unfold lnOf at hm
  obtain ⟨i, _, rfl⟩ := List.mem_map.mp hm
  obtain ⟨r, hr, e⟩ := canon_word hp
  rw [← e]
  exact d.kt r (sel_mem hr)
end
def headOf (ls : List Q.Mx) : D := match tms ls with
  | [] => .none
  | t :: _ => eT t
def toldS : D := .str (Str.ofString "told")
def got2 (ls ms : List Q.Mx) (one : Q.Mx) (q : Rat) : D := .list [.list [toldS, eL ls], .tuple ((ls.zip ms).map fun p => eM (Q.canon (p.1 ++ p.2))), .tuple (ls.map fun m => eM (Q.canon (scale m q))), .tuple (ls.map fun m => eM (Q.canon (prodL one m))), .tuple (ls.map fun m => eM (Q.canon (prodL m one))),
  termsD ls, headOf ls, .int (maxI (0 :: lens ls)), .tuple (sI (lets ls))]
theorem tD_T (t : Tm) : tD (eT t) = eT t := by
  show PyData.tuple [tD (eW t.1), .int t.2.1, tD (eF t.2.2)] = _
  rw [tD_W, tD_F]
  rfl
theorem tD_Ts (ts : List Tm) : tDs (ts.map eT) = ts.map eT := by
  rw [tDs_map, List.map_map]
  exact List.map_congr_left fun t _ => tD_T t
theorem good_T {t : Tm} (h : t.1.length ≤ 8000000) : good 2 (eT t) = true := good_tuple (by simp) fun x hx => by
  simp only [List.mem_cons, List.not_mem_nil, or_false] at hx
  rcases hx with rfl | rfl | rfl
  · exact good_W h
  · rfl
  · exact good_F _
theorem good_Ts {ts : List Tm} (h : ∀ t ∈ ts, t.1.length ≤ 8000000) : ∀ x ∈ ts.map eT, good 2 x = true := fun x hx => by
  obtain ⟨t, ht, rfl⟩ := List.mem_map.mp hx
  exact good_T (h t ht)
theorem tD_L (ls : List Q.Mx) : tD (eL ls) = eL ls := by
  show PyData.tuple (tDs (ls.map eM)) = _
  rw [tDs_map, List.map_map]
  unfold eL
  congr 1
  refine List.map_congr_left fun m _ => ?_
  show PyData.tuple (tDs (m.map eP)) = _
  rw [tD_Ps]
  rfl
theorem good_Lm {ls : List Q.Mx} (hl : ls.length ≤ 16777216) (h : ∀ m ∈ ls, Ln m ∧ m.length ≤ 16777216) : good 4 (eL ls) = true := good_tuple (by rw [List.length_map]; exact hl) fun x hx => by
  obtain ⟨m, hm, rfl⟩ := List.mem_map.mp hx
  exact good_M (h m hm).1 (h m hm).2
theorem told_good : good 0 toldS = true := by
  show SeqAt.shaped (.str (Str.ofString "told")) = true
  decide +kernel
section
variable {T : Nat → Fn} {ρ : Env} {k s : Nat} {near far one other : Q.Mx} {q : Rat} {ts : List Tm} {ls ms : List Q.Mx}
theorem Sm3.pw (d : Sm3 k s ts ls ms) : ∀ t ∈ ts, t.1.length ≤ 3 := fun t ht => d.mt.ln (t.1, t.2.2) (List.mem_map.mpr ⟨t, ht, rfl⟩)
theorem Sm3.gT (d : Sm3 k s ts ls ms) : good 6 (.list (ts.map eT)) = true := good_up (n := 3) (good_list (by rw [List.length_map]; have := d.tl; omega) (good_Ts fun t ht => Nat.le_trans (d.pw t ht) (by omega))) (by omega)
theorem Sm3.sum (d : Sm3 k s ts ls ms) : SumOk ts 2 := ⟨fun t ht => Nat.le_trans (d.pw t ht) (by omega), fun i => (mz_sel d.mt i).bnd (by omega), by have := d.tl; omega⟩
theorem Sm3.gL (d : Sm3 k s ts ls ms) : good 4 (eL ls) = true := good_Lm (by rw [d.len]; have := d.s1; omega) fun m hm => ⟨(d.ml m hm).Ln (by omega), Nat.le_trans (d.ml m hm).len (by omega)⟩
theorem Sm3.rd (d : Sm3 k s ts ls ms) : RdL (lD (eL ls)) ls ∧ RdL (eL ls) ls := ⟨⟨by rw [good_lD]; exact good_up d.gL (by omega), by rw [tD_lD, tD_L]⟩, good_up d.gL (by omega), tD_L ls⟩
theorem heard (A : AllOk T) (d : Sm3 k s ts ls ms) {X : D} (gX : good 6 X = true) (tX : tD X = .tuple (ts.map eT)) : T 41 [X, .int (s : Nat)] = .ok (.list [toldS, eL ls]) [] := by
  obtain ⟨T', rfl, h15, _⟩ := A.o41
  have c := h15 X 2 s ts gX tX (by have := d.s1; omega) d.sum d.gd
  have e : (List.range s).map (fun (i : Nat) => eM (Q.canon (sel ts (i : Int)))) = ls.map eM := by rw [d.el]; unfold lnOf; rw [List.map_map]; rfl
  rw [e] at c
  exact run41 c
theorem b15_run (A : AllOk T) (d : Sm3 k s ts ls ms) (r : Dr k near far one other q) (f : Frm ρ) (h4 : ρ 4 = .im (.int (s : Nat))) (h7 : ρ 7 = .im (eM one)) (h9 : ρ 9 = .im (eF q)) (h17 : ρ 17 = .im (.list (ts.map eT))) (h18 : ρ 18 = .im (eL ls)) (h21 : ρ 21 = .im (eL ms)) : b15 T ρ = .ok .nx (ρ.put 10 (.im (got2 ls ms one q))) := by
  have x17 := A.o35 _ d.gT
  have x18 := A.o35 _ d.rd.2.1
  have sl : ls.length = s := d.len
  have s1 := d.s1
  have c1 := heard A d (X := lD (.list (ts.map eT))) (by rw [good_lD]; exact d.gT) (by rw [tD_lD]; show PyData.tuple (tDs _) = _; rw [tD_Ts])
  have ez : ls.zip ms = ls.zip ms := rfl
  have zl : (ls.zip ms).map (·.1) = ls := by rw [List.map_fst_zip]; rw [sl, d.lm]; exact Nat.le_refl _
  have zr : (ls.zip ms).map (·.2) = ms := by rw [List.map_snd_zip]; rw [sl, d.lm]; exact Nat.le_refl _
  have c2 := A.o20 (lD (eL ls)) (eL ms) 28 ((ls.zip ms).map fun p => (lD (eM p.1), p.1, p.2)) (by
    rw [items_lL', List.map_map]
    congr 1
    conv => lhs; rw [← zl]
    rw [List.map_map]
    rfl) (by
    rw [List.map_map]
    show some (ms.map eM) = _
    congr 1
    conv => lhs; rw [← zr]
    rw [List.map_map]
    rfl) (by rw [List.length_map, List.length_zip]; omega) (fun z hz => by
      obtain ⟨p, hp, rfl⟩ := List.mem_map.mp hz
      have m1 := d.ml p.1 (List.of_mem_zip hp).1
      have m2 := d.mm p.2 (List.of_mem_zip hp).2
      exact ⟨rd_lists (m1.rd (by omega) (by omega)), m1.Ln (by omega), m2.Ln (by omega), Nat.le_trans m2.len (by omega), ((m1.app m2).mono (Nat.le_refl _) (by omega : _ ≤ 28) (Nat.le_refl _)).bnd (by omega)⟩)
  rw [List.map_map] at c2
  have e2 : (ls.zip ms).map ((fun z : D × Q.Mx × Q.Mx => eM (Q.canon (z.2.1 ++ z.2.2))) ∘ fun p => (lD (eM p.1), p.1, p.2)) = (ls.zip ms).map fun p => eM (Q.canon (p.1 ++ p.2)) := rfl
  rw [e2] at c2
  have c3 := A.o21 (eF q) 31 ls q (good_up (good_F q) (by omega)) (tD_F q) (r.sq.mono (by omega)) (by omega) (fun m hm => by
    have m1 := d.ml m hm
    exact ⟨m1.Ln (by omega), m1.sm (by omega), Nat.le_trans m1.len (by omega), (m1.scale r.sq).bnd (by omega)⟩)
  have c4 := A.o22 44 one ls (r.m1.Ln (by omega)) (r.m1.sm (by omega)) (Nat.le_trans r.m1.len (by omega)) (by omega) (fun m hm => by
    have m1 := d.ml m hm
    exact ⟨m1.Ln (by omega), m1.sm (by omega), Nat.le_trans m1.len (by omega), (r.m1.prod m1).bnd (by omega)⟩)
  have c5 := A.o23 44 one ls (r.m1.Ln (by omega)) (r.m1.sm (by omega)) (Nat.le_trans r.m1.len (by omega)) (by omega) (fun m hm => by
    have m1 := d.ml m hm
    exact ⟨m1.Ln (by omega), m1.sm (by omega), Nat.le_trans m1.len (by omega), (m1.prod r.m1).bnd (by omega)⟩)
  have rl := d.rows
  have c6 := A.o24 _ ls d.rd.1 (by omega)
  have c7 : T 25 [eL ls] = .ok (headOf ls) [] := by
    rw [A.o25 _ ls d.rd.2 (by omega)]
    unfold headOf tms
    rfl
  have c8 := (A.o26 ls (by rw [← rows_lens, List.length_map]; omega)).2
  have c9 := A.o29 ls d.lets
  simp [b15, h4, h7, h9, h17, h18, h21, szOk, ocV_ok x17, ocV_ok x18, ocV_ok c1, ocV_ok c2, ocV_ok c3, ocV_ok c4, ocV_ok c5, ocV_ok c6, ocV_ok c7, ocV_ok c8, ocV_ok c9, f.n 10 (by omega), got2]
end
end Rf
end
section
set_option Elab.async false
set_option linter.all false
set_option maxRecDepth 100000
set_option maxHeartbeats 4000000
/-! S22: the law's turn: SUMS compared, registers that are none. -/
namespace Rf
open PySem PySem.Spec L2
section
variable {T : Nat → Fn} {ρ : Env} {k s : Nat} {near far one other : Q.Mx} {q : Rat} {ts : List Tm} {ls ms : List Q.Mx}
theorem cons_ok {a : M D} {r : M (List D)} {d : D} {ds : List D} (h : a ρ = .ok d ρ) (t : r ρ = .ok ds ρ) : consM a r ρ = .ok (d :: ds) ρ := by
  rw [ev_cons, h]
  show (r ρ).bind _ = _
  rw [t]
  rfl
theorem as_ok (i : Nat) {m : M D} {d : D} {ρ : Env} (h : m ρ = .ok d ρ) (n : (ρ i).isM = false) : asM (.nm i) m ρ = .ok .nx (ρ.put i (.im d)) := by
  simp [h, notIo_of n]
theorem lst_ok {r : M (List D)} {ds : List D} {ρ : Env} (t : r ρ = .ok ds ρ) (z : szOk ds.length = true) : lstM r ρ = .ok (.list ds) ρ := by
  rw [ev_lst, t]
  show M.lift (if szOk ds.length then _ else none) ρ = _
  rw [if_pos z]
  rfl
theorem b16_run (f : Frm ρ) : b16 T ρ = .ok .nx (ρ.put 25 (.im (.list []))) := by
  simp [b16, szOk, f.n 25 (by omega)]
theorem b17_run (d : Sm3 k s ts ls ms) (f : Frm ρ) (h23 : ρ 23 = .im (termsD ls)) (h25 : ρ 25 = .im (.list [])) : ∃ ρ', b17 T ρ = .ok .nx ρ' ∧ ρ' 25 = .im (.list (((tms ls).flatMap fun t => t.1).map .int)) ∧ (∀ j, j ≠ 12 → j ≠ 19 → j ≠ 13 → j ≠ 25 → ρ' j = ρ j) ∧ Frm ρ' := by
  have hs : itsM (wvM 23) ρ = .ok ((tms ls).map eT) ρ := by simp [h23, termsD, tms]
  refine for_run (src := itsM (wvM 23)) (p := .tp [.nm 12, .nm 19, .nm 13]) (b := seqM (asM (Pat.nm 25) (bin addU (rdM 25) (un1 listD (rdM 12)))) nxM) (tms ls) eT
    (fun ws ρ' => ρ' 25 = .im (.list ((ws.flatMap fun t => t.1).map .int)) ∧ (∀ j, j ≠ 12 → j ≠ 19 → j ≠ 13 → j ≠ 25 → ρ' j = ρ j) ∧ Frm ρ') (ρ := ρ) (ρ0 := ρ) hs ⟨h25, fun _ _ _ _ _ => rfl, f⟩ (fun ws x us ρ1 e ⟨r25, rj, rf⟩ => ?_)
  have hw : ∀ t ∈ tms ls, t.1.length ≤ 3 := fun t ht => by
    obtain ⟨m, hm, p, hp, e⟩ := row_word (tms_mem.mp ht)
    rw [← e]
    exact (d.ml m hm).ln p hp
  have wl : ws.length < 9 := by
    have a := congrArg List.length e
    rw [tms_len, List.length_append, List.length_cons] at a
    have := d.rows
    omega
  have fl := flat_le (ts := ws) (L := 3) fun t ht => hw t (by rw [e]; simp [ht])
  have xl := hw x (by rw [e]; simp)
  have lx : listD (eW x.1) = some (.list (x.1.map .int)) := rfl
  have ad : addU (.list ((ws.flatMap fun t => t.1).map .int)) (.list (x.1.map .int)) = some (.list (((ws ++ [x]).flatMap fun t => t.1).map .int)) := by
    rw [add_list (szOk_of (by rw [List.length_map, List.length_map]; omega)), List.flatMap_append, List.map_append]
    simp
  refine ⟨((ρ1.put 12 (.im (eW x.1))).put 19 (.im (.int x.2.1))).put 13 (.im (eF x.2.2)), ((((ρ1.put 12 (.im (eW x.1))).put 19 (.im (.int x.2.1))).put 13 (.im (eF x.2.2))).put 25 (.im (.list (((ws ++ [x]).flatMap fun t => t.1).map .int)))), by simp [eT, rf.n 12 (by omega), rf.n 19 (by omega), rf.n 13 (by omega)], by simp [r25, lx, ad, rf.n 25 (by omega), -List.flatMap_append, -List.map_flatMap], by simp [-List.flatMap_append, -List.map_flatMap], fun j a b c e => ?_, fr_put (fr_put (fr_put (fr_put rf)))⟩
  simp [a, b, c, e, rj j a b c e]
theorem shaped_Ts (l : List Tm) : SeqAt.shaped (.tuple (l.map eT)) = true ∧ SeqAt.shaped (.list (l.map eT)) = true := by
  have a : PyData.canLayAll0 (l.map eT) = true ∧ PyData.depthAll (l.map eT) ≤ 2 := by
    induction l with
    | nil => exact ⟨rfl, by show 0 ≤ 2; omega⟩
    | cons p l ih =>
      refine ⟨?_, ?_⟩
      · show ((PyData.canLayAll0 (p.1.map .int) && (true && ((true && (true && true)) && true))) && PyData.canLayAll0 (l.map eT)) = true
        rw [lay_ints, ih.1]
        rfl
      · show max (max (eW p.1).depth (max 0 (max (eF p.2.2).depth 0)) + 1) (PyData.depthAll (l.map eT)) ≤ 2
        have e2 : (eF p.2.2).depth = 1 := by rfl
        rw [depth_W, e2]
        have := ih.2
        omega
  have h : PyData.depthAll (l.map eT) + 1 ≤ 64 := by have := a.2; omega
  constructor
  · unfold SeqAt.shaped
    rw [Bool.and_eq_true]
    exact ⟨a.1, decide_eq_true h⟩
  · unfold SeqAt.shaped
    rw [Bool.and_eq_true]
    exact ⟨a.1, decide_eq_true h⟩
theorem ne_Ts0 (l : List Tm) : neD (.tuple (l.map eT)) (.tuple []) = some (.bool (!l.isEmpty)) ∧ neD (.list (l.map eT)) (.list []) = some (.bool (!l.isEmpty)) := by
  constructor
  · unfold neD
    rw [(shaped_Ts l).1]
    cases l <;> rfl
  · unfold neD
    rw [(shaped_Ts l).2]
    cases l <;> rfl
theorem ad_mix {a b : Q.Mx} (h1 : a.length ≤ 1000) (h2 : b.length ≤ 1000) : addU (.list (a.map eP)) (.list (b.map eP)) = some (.list ((a ++ b).map eP)) := by
  rw [add_list (szOk_of (by rw [List.length_map, List.length_map]; omega)), List.map_append]
/-- two SUMS side by side, each pair of MIXES added up by the law -/
theorem zip_add (A : AllOk T) {xs ys : List Q.Mx} {i j : Nat} {L n c n' c' : Nat} (hx : ρ i = .im (eL xs)) (hy : ρ j = .im (eL ys)) (f : Frm ρ) (hl : xs.length ≤ 1000) (mx : ∀ m ∈ xs, Mz L n c m) (my : ∀ m ∈ ys, Mz L n' c' m) (hb : 1 + (c + c') * (max n n' + 1) ≤ 4000) (hc : c + c' < 63) :
    compM (overM zipDs (consM (vrM i) (consM (vrM j) nilM))) [26, 27] (stepM (Pat.tp [Pat.nm 26, Pat.nm 27]) yesM (elM (callM (T 42) [Md.dt] [Ar.dt (bin addU (un1 listD (rdM 26)) (un1 listD (rdM 27)))]))) ρ = .ok (.list ((xs.zip ys).map fun p => eM (Q.canon (p.1 ++ p.2)))) ρ := by
  have ez : zipD (xs.map eM) (ys.map eM) = (xs.zip ys).map fun p => .tuple [eM p.1, eM p.2] := by
    unfold zipD
    clear hx hy mx my hl
    induction xs generalizing ys with
    | nil => rfl
    | cons x xs ih =>
      cases ys with
      | nil => rfl
      | cons y ys => simp [ih]
  refine comp_map (xs.zip ys) (fun p => .tuple [eM p.1, eM p.2]) _ (by simp [hx, hy, zipDs, eL, ez]) (by simp [nonM, f 26 (by omega), f 27 (by omega)]) (szOk_of (by rw [List.length_zip]; omega)) fun p hp => ?_
  have m1 := mx p.1 (List.of_mem_zip hp).1
  have m2 := my p.2 (List.of_mem_zip hp).2
  have c := A.o42 _ _ (p.1 ++ p.2) (.inl rfl) ((m1.app m2).bnd hb) (by have := (m1.app m2).len; omega)
  have l1 : listD (eM p.1) = some (.list (p.1.map eP)) := rfl
  have l2 : listD (eM p.2) = some (.list (p.2.map eP)) := rfl
  have ad := ad_mix (a := p.1) (b := p.2) (Nat.le_trans m1.len (by omega)) (Nat.le_trans m2.len (by omega))
  exact ⟨_, by simp [l1, l2, ad, ocV_ok c, -List.map_append]; rfl, agr_put (agr_put agr_wipe rfl) rfl⟩
theorem b18_run (A : AllOk T) (d : Sm3 k s ts ls ms) (r : Dr k near far one other q) (f : Frm ρ) (h7 : ρ 7 = .im (eM one)) (h9 : ρ 9 = .im (eF q)) (h18 : ρ 18 = .im (eL ls)) (h21 : ρ 21 = .im (eL ms)) (h23 : ρ 23 = .im (termsD ls)) (h25 : ρ 25 = .im (.list (((tms ls).flatMap fun t => t.1).map .int))) :
    b18 T ρ = .ok .nx (ρ.put 11 (.im (got2 ls ms one q))) := by
  have sl : ls.length = s := d.len
  have s1 := d.s1
  have rl := d.rows
  have k2 := zip_add A h18 h21 f (by omega) d.ml (fun m hm => d.mm m hm) (by omega) (by omega)
  have k3 := comp_map (ρ := ρ) (src := itsU (rdM 18)) (js := [28]) (step := stepM (Pat.nm 28) yesM (elM (callM (T 42) [Md.dt] [Ar.dt (compM (itsU (rdM 28)) [12, 13] (stepM (Pat.tp [Pat.nm 12, Pat.nm 13]) yesM (elM (tupM (consM (vrM 12) (consM (callM (T 39) [Md.dt, Md.dt] [Ar.dt (vrM 13), Ar.dt (vrM 9)]) nilM))))))])))
    ls eM (fun m => eM (Q.canon (scale m q))) (by simp [h18, eL]) (by simp [nonM, f 28 (by omega)]) (szOk_of (by omega)) (fun m hm => by
      have m1 := d.ml m hm
      have ci := comp_map (ρ := (wipeE ρ [28]).put 28 (.im (eM m))) (src := itsU (rdM 28)) (js := [12, 13]) (step := stepM (Pat.tp [Pat.nm 12, Pat.nm 13]) yesM (elM (tupM (consM (vrM 12) (consM (callM (T 39) [Md.dt, Md.dt] [Ar.dt (vrM 13), Ar.dt (vrM 9)]) nilM)))))
        m eP (fun p => eP (p.1, p.2 * q)) (by simp [eM]) (by simp [nonM, f 12 (by omega), f 13 (by omega)]) (szOk_of (Nat.le_trans m1.len (by omega))) (fun p hp => ⟨_, by simp [h9, ocV_ok (A.o39 p.2 q ((m1.sz p hp).mono (by omega)) (r.sq.mono (by omega))), szOk]; exact ⟨rfl, rfl⟩, agr_put (agr_put agr_wipe rfl) rfl⟩)
      have es : m.map (fun p => eP (p.1, p.2 * q)) = (scale m q).map eP := by unfold scale; rw [List.map_map]; rfl
      rw [es] at ci
      have c := A.o42 _ _ (scale m q) (.inl rfl) ((m1.scale r.sq).bnd (by omega)) (by have := (m1.scale r.sq).len; omega)
      exact ⟨_, by simp [ci, ocV_ok c]; rfl, agr_put agr_wipe rfl⟩)
  have k4 := comp_map (ρ := ρ) (src := itsU (rdM 18)) (js := [28]) (step := stepM (Pat.nm 28) yesM (elM (callM (T 43) [Md.dt, Md.dt] [Ar.dt (vrM 7), Ar.dt (vrM 28)])))
    ls eM (fun m => eM (Q.canon (prodL one m))) (by simp [h18, eL]) (by simp [nonM, f 28 (by omega)]) (szOk_of (by omega)) (fun m hm => by
      have m1 := d.ml m hm
      have c := A.o43 (eM one) (eM m) _ one m (.inr rfl) (.inr rfl) (r.m1.Ln (by omega)) (m1.Ln (by omega)) (r.m1.sm (by omega)) (m1.sm (by omega)) ((r.m1.prod m1).bnd (by omega)) (by have := (r.m1.prod m1).len; omega)
      exact ⟨_, by simp [h7, ocV_ok c]; rfl, agr_put agr_wipe rfl⟩)
  have k5 := comp_map (ρ := ρ) (src := itsU (rdM 18)) (js := [28]) (step := stepM (Pat.nm 28) yesM (elM (callM (T 43) [Md.dt, Md.dt] [Ar.dt (vrM 28), Ar.dt (vrM 7)])))
    ls eM (fun m => eM (Q.canon (prodL m one))) (by simp [h18, eL]) (by simp [nonM, f 28 (by omega)]) (szOk_of (by omega)) (fun m hm => by
      have m1 := d.ml m hm
      have c := A.o43 (eM m) (eM one) _ m one (.inr rfl) (.inr rfl) (m1.Ln (by omega)) (r.m1.Ln (by omega)) (m1.sm (by omega)) (r.m1.sm (by omega)) ((m1.prod r.m1).bnd (by omega)) (by have := (m1.prod r.m1).len; omega)
      exact ⟨_, by simp [h7, ocV_ok c]; rfl, agr_put agr_wipe rfl⟩)
  have ht : termsD ls = .tuple ((tms ls).map eT) := rfl
  have k7 : iteM (tstM (bin neD (rdM 23) (tupM nilM))) (bin ixU (rdM 23) (M.pure (PyData.int 0))) (M.pure PyData.none) ρ = .ok (headOf ls) ρ := by
    have e := (ne_Ts0 (tms ls)).1
    unfold headOf
    rw [ht] at h23
    cases hm : tms ls with
    | nil =>
      have e' : neD (.tuple []) (.tuple []) = some (.bool false) := by rw [hm] at e; exact e
      have h' : ρ 23 = .im (.tuple []) := by rw [h23, hm]; rfl
      simp [h', szOk, e']
    | cons x xs =>
      have e' : neD (.tuple (eT x :: xs.map eT)) (.tuple []) = some (.bool true) := by rw [hm] at e; exact e
      have h' : ρ 23 = .im (.tuple (eT x :: xs.map eT)) := by rw [h23, hm]; rfl
      simp [h', szOk, e']
  have k8 := comp_map (ρ := ρ) (src := itsU (rdM 23)) (js := [12, 19, 13]) (step := stepM (Pat.tp [Pat.nm 12, Pat.nm 19, Pat.nm 13]) yesM (elM (un1 lenD (rdM 12))))
    (tms ls) eT (fun t => PyData.int (t.1.length : Nat)) (by simp [h23, ht]) (by simp [nonM, f 12 (by omega), f 19 (by omega), f 13 (by omega)]) (szOk_of (by rw [tms_len]; omega)) (fun t _ => ⟨_, by simp [eT]; rfl, agr_put (agr_put (agr_put agr_wipe rfl) rfl) rfl⟩)
  have e8 : (tms ls).map (fun t => PyData.int (t.1.length : Nat)) = ((tms ls).map fun t => ((t.1.length : Nat) : Int)).map .int := by rw [List.map_map]; rfl
  rw [e8] at k8
  have z8 : addU (.list [.int 0]) (.list (((tms ls).map fun t => ((t.1.length : Nat) : Int)).map .int)) = some (.list ((0 :: (tms ls).map fun t => ((t.1.length : Nat) : Int)).map .int)) := by
    rw [add_list (szOk_of (by rw [List.length_map, List.length_map, tms_len]; show 1 + _ ≤ _; omega))]
    rfl
  have mx := maxD_ints (a := 0) (ns := (tms ls).map fun t => ((t.1.length : Nat) : Int))
  rw [tms_max] at mx
  have ll := d.lets
  have c9 := A.o36 ((tms ls).flatMap fun t => t.1) (by
    have hw : ∀ t ∈ tms ls, t.1.length ≤ 3 := fun t ht => by
      obtain ⟨m, hm, p, hp, e⟩ := row_word (tms_mem.mp ht)
      rw [← e]
      exact (d.ml m hm).ln p hp
    have fl := flat_le (ts := tms ls) (L := 3) hw
    rw [tms_len] at fl
    omega)
  rw [tms_lets] at c9
  have k1 : lstM (consM (M.pure (PyData.str (Str.ofString "told"))) (consM (vrM 18) nilM)) ρ = .ok (.list [toldS, eL ls]) ρ := by simp [h18, szOk, toldS]
  have k6 : vrM 23 ρ = .ok (termsD ls) ρ := by simp [h23]
  have k9 : callM (T 36) [Md.dt] [Ar.dt (vrM 25)] ρ = .ok (.tuple (sI (lets ls))) ρ := by
    simp [h25, ocV_ok c9, -List.map_flatMap]
  have kx : un1 maxD (bin addU (lstM (consM (M.pure (PyData.int 0)) nilM)) (compM (itsU (rdM 23)) [12, 19, 13] (stepM (Pat.tp [Pat.nm 12, Pat.nm 19, Pat.nm 13]) yesM (elM (un1 lenD (rdM 12)))))) ρ = .ok (.int (maxI (0 :: lens ls))) ρ := by
    simp [szOk, k8, z8, mx, -List.map_map, -List.map_cons]
  have tp : ∀ (m : M D) (xs : List D), m ρ = .ok (.list xs) ρ → un1 tupD m ρ = .ok (.tuple xs) ρ := fun m xs h => by
    rw [ev_un1, h]
    rfl
  have L := cons_ok k1 (cons_ok (tp _ _ k2) (cons_ok (tp _ _ k3) (cons_ok (tp _ _ k4) (cons_ok (tp _ _ k5) (cons_ok k6 (cons_ok k7 (cons_ok kx (cons_ok k9 (ev_nil (ρ := ρ))))))))))
  unfold b18
  exact as_ok 11 (lst_ok L (szOk_of (by simp))) (f 11 (by omega))
theorem sI_int {ns : List Int} {x : D} (h : x ∈ sI ns) : ∃ i : Int, x = .int i := by
  unfold sI at h
  obtain ⟨k, hk, rfl⟩ := List.mem_map.mp h
  unfold srtK at hk
  have := mem_uniq.mp ((List.mergeSort_perm _ kLe).mem_iff.mp hk)
  obtain ⟨i, _, rfl⟩ := List.mem_map.mp this
  exact ⟨i, rfl⟩
theorem sI_len (ns : List Int) : (sI ns).length ≤ ns.length := by
  unfold sI srtK
  rw [List.length_map, List.length_mergeSort]
  have : ∀ l : List NestedKey, (uniq l).length ≤ l.length := by
    intro l
    induction l with
    | nil => exact Nat.le_refl _
    | cons a l ih =>
      unfold uniq
      split
      · exact Nat.le_succ_of_le ih
      · exact Nat.succ_le_succ ih
  have h := this (ns.map .num)
  rwa [List.length_map] at h
theorem good_MM {α : Type} {xs : List α} {g : α → Q.Mx} {L n c : Nat} (hl : xs.length ≤ 1000) (h : ∀ x ∈ xs, Mz L n c (g x)) (hL : L ≤ 8000000) (hc : c ≤ 16777216) : good 5 (.tuple (xs.map fun x => eM (g x))) = true := good_up (n := 4) (good_tuple (n := 3) (by rw [List.length_map]; omega) fun y hy => by
  obtain ⟨x, hx, rfl⟩ := List.mem_map.mp hy
  exact good_M ((h x hx).Ln hL) (Nat.le_trans (h x hx).len hc)) (by omega)
theorem rows_word (d : Sm3 k s ts ls ms) : ∀ t ∈ tms ls, t.1.length ≤ 3 := fun t ht => by
  obtain ⟨m, hm, p, hp, e⟩ := row_word (tms_mem.mp ht)
  rw [← e]
  exact (d.ml m hm).ln p hp
theorem got2_good (d : Sm3 k s ts ls ms) (r : Dr k near far one other q) : good 6 (got2 ls ms one q) = true := by
  have sl : ls.length = s := d.len
  have s1 := d.s1
  have rl := d.rows
  refine good_list (n := 5) (by simp) fun x hx => ?_
  simp only [List.mem_cons, List.not_mem_nil, or_false] at hx
  rcases hx with rfl | rfl | rfl | rfl | rfl | rfl | rfl | rfl | rfl
  · refine good_list (n := 4) (by simp) fun y hy => ?_
    simp only [List.mem_cons, List.not_mem_nil, or_false] at hy
    rcases hy with rfl | rfl
    · exact good_up told_good (by omega)
    · exact d.gL
  · exact good_MM (xs := ls.zip ms) (g := fun p => Q.canon (p.1 ++ p.2)) (by rw [List.length_zip]; omega) (fun p hp => ((d.ml p.1 (List.of_mem_zip hp).1).app (d.mm p.2 (List.of_mem_zip hp).2)).canon) (by omega) (by omega)
  · exact good_MM (g := fun m => Q.canon (scale m q)) (by omega) (fun m hm => ((d.ml m hm).scale r.sq).canon) (by omega) (by omega)
  · exact good_MM (g := fun m => Q.canon (prodL one m)) (by omega) (fun m hm => (r.m1.prod (d.ml m hm)).canon) (by omega) (by omega)
  · exact good_MM (g := fun m => Q.canon (prodL m one)) (by omega) (fun m hm => ((d.ml m hm).prod r.m1).canon) (by omega) (by omega)
  · exact good_up (n := 3) (good_tuple (by rw [List.length_map]; have := tms_len ls; unfold tms at this; omega) (good_Ts fun t ht => Nat.le_trans (rows_word d t ht) (by omega))) (by omega)
  · unfold headOf
    cases hm : tms ls with
    | nil => rfl
    | cons t r => exact good_up (good_T (Nat.le_trans (rows_word d t (by rw [hm]; simp)) (by omega))) (by omega)
  · rfl
  · refine good_up (n := 1) (good_tuple (by have := sI_len (lets ls); have := d.lets; omega) fun y hy => ?_) (by omega)
    obtain ⟨i, rfl⟩ := sI_int hy
    rfl
theorem b19_run (A : AllOk T) (d : Sm3 k s ts ls ms) (r : Dr k near far one other q) (h10 : ρ 10 = .im (got2 ls ms one q)) (h11 : ρ 11 = .im (got2 ls ms one q)) : b19 T ρ = .ok .nx ρ :=
  same_run A (d := got2 ls ms one q) (by simp [h10]) (by simp [h11]) (got2_good d r)
theorem b6_run (A : AllOk T) (r : Dr k near far one other q) (h10 : ρ 10 = .im (got1 one other q)) (h11 : ρ 11 = .im (got1 one other q)) : b6 T ρ = .ok .nx ρ :=
  same_run A (d := got1 one other q) (by simp [h10]) (by simp [h11]) r.g1
/-! ### registers that are none -/
def badT (n s : Nat) (x : Nat × Tm) : Tm := (x.2.1, x.2.2.1 + (if (x.1 : Int) = (n : Int) - 1 then (s : Int) else 0), x.2.2.2)
def badOf (ts : List Tm) (s : Nat) : List Tm := (idx 0 ts).map (badT ts.length s)
theorem b20_run (f : Frm ρ) (h4 : ρ 4 = .im (.int (s : Nat))) (h17 : ρ 17 = .im (.list (ts.map eT))) (hl : ts.length ≤ 1000) : b20 T ρ = .ok .nx (ρ.put 29 (.im (.list ((badOf ts s).map eT)))) := by
  have ee := enum_idx eT ts
  have cc := comp_map (ρ := ρ) (src := overM enumDs (consM (vrM 17) nilM)) (js := [30, 12, 19, 13]) (step := stepM (Pat.tp [Pat.nm 30, Pat.tp [Pat.nm 12, Pat.nm 19, Pat.nm 13]]) yesM (elM (tupM (consM (vrM 12) (consM (bin addU (rdM 19) (iteM (tstM (bin eqD (rdM 30) (bin subD (un1 lenD (rdM 17)) (M.pure (PyData.int 1))))) (vrM 4) (M.pure (PyData.int 0)))) (consM (vrM 13) nilM))))))
    (idx 0 ts) (fun x => PyData.tuple [.int (x.1 : Nat), eT x.2]) (fun x => eT (badT ts.length s x)) (by simp [h17, enumDs, ee]) (by simp [nonM, f 30 (by omega), f 12 (by omega), f 19 (by omega), f 13 (by omega)]) (szOk_of (by rw [idx_len]; omega)) (fun x hx => by
      by_cases h : (x.1 : Int) = (ts.length : Int) - 1
      · exact ⟨_, by simp [eT, eq_int, h4, h17, h, szOk, badT]; rfl, agr_put (agr_put (agr_put (agr_put agr_wipe rfl) rfl) rfl) rfl⟩
      · exact ⟨_, by simp [eT, eq_int, h4, h17, h, szOk, badT]; rfl, agr_put (agr_put (agr_put (agr_put agr_wipe rfl) rfl) rfl) rfl⟩)
  have e : (idx 0 ts).map (fun x => eT (badT ts.length s x)) = (badOf ts s).map eT := by unfold badOf; rw [List.map_map]; rfl
  rw [e] at cc
  simp [b20, cc, f.n 29 (by omega)]
theorem idx_app {α : Type} : ∀ (k : Nat) (a : List α) (z : α), idx k (a ++ [z]) = idx k a ++ [(k + a.length, z)]
  | k, [], z => by simp [idx]
  | k, x :: a, z => by
    show (k, x) :: idx (k + 1) (a ++ [z]) = (k, x) :: (idx (k + 1) a ++ [(k + (a.length + 1), z)])
    rw [idx_app (k + 1) a z, show k + 1 + a.length = k + (a.length + 1) by omega]
theorem idx_lt {α : Type} : ∀ (k : Nat) (a : List α) (x : Nat × α), x ∈ idx k a → x.1 < k + a.length
  | k, [], x, h => by unfold idx at h; cases h
  | k, y :: a, x, h => by
    unfold idx at h
    rcases List.mem_cons.mp h with rfl | h
    · show k < k + (a.length + 1)
      omega
    · have := idx_lt (k + 1) a x h
      rw [List.length_cons]
      omega
theorem bad_snoc (a : List Tm) (z : Tm) (s : Nat) : badOf (a ++ [z]) s = a ++ [(z.1, z.2.1 + s, z.2.2)] := by
  unfold badOf
  rw [idx_app, List.map_append, Nat.zero_add]
  congr 1
  · have : (idx 0 a).map (badT (a ++ [z]).length s) = (idx 0 a).map (·.2) := List.map_congr_left fun x hx => by
      have l := idx_lt 0 a x hx
      unfold badT
      rw [if_neg (by rw [List.length_append]; simp; omega)]
      simp
    rw [this, idx_snd]
  · show [badT (a ++ [z]).length s (a.length, z)] = _
    unfold badT
    rw [if_pos (by rw [List.length_append]; simp)]
theorem ix_lastL (xs : List D) (x : D) : ixU (.list (xs ++ [x])) (.int (-1)) = some x := by
  have e : ixU (.list (xs ++ [x])) (.int (-1)) = (atI (xs ++ [x]) (-1)).orElse fun _ => ixK (.list (xs ++ [x])) (.int (-1)) := rfl
  have l : (xs ++ [x]).length = xs.length + 1 := by simp
  have a : atI (xs ++ [x]) (-1) = some x := by
    unfold atI ixN
    rw [l, if_neg (by omega), if_pos (by omega)]
    have : ((-1 : Int) + ((xs.length + 1 : Nat) : Int)).toNat = xs.length := by omega
    rw [this]
    simp
  rw [e, a]
  rfl
def noReg (i : Int) : D := .list [.str (Str.ofString "NoRegister"), .int i, .bool true]
theorem ne_reg (i : Int) : neD (noReg i) (noReg i) = some (.bool false) := by
  have hs : SeqAt.shaped (.str (Str.ofString "NoRegister")) = true := by decide +kernel
  have hc : PySem.PyData.canLay0 (.str (Str.ofString "NoRegister")) = true := SeqAt.canLay_of_shaped hs
  have sh : SeqAt.shaped (noReg i) = true := by
    unfold SeqAt.shaped
    show ((PySem.PyData.canLay0 (.str (Str.ofString "NoRegister")) && (true && (true && true))) && true) = true
    rw [hc]
    rfl
  unfold neD
  rw [sh]
  have : PyData.eqv (noReg i) (noReg i) = true := by
    show ((Str.ofString "NoRegister" == Str.ofString "NoRegister") && ((i == i) && ((true == true) && true))) = true
    simp
  rw [this]
  rfl
theorem b21_run (A : AllOk T) (d : Sm3 k s ts ls ms) (h4 : ρ 4 = .im (.int (s : Nat))) (h17 : ρ 17 = .im (.list (ts.map eT))) (h29 : ρ 29 = .im (.list ((badOf ts s).map eT))) : b21 T ρ = .ok .nx ρ := by
  have tl := d.tl
  have e0 := (ne_Ts0 ts).2
  rcases List.eq_nil_or_concat ts with rfl | ⟨a, z, rfl⟩
  · have e0' : neD (.list []) (.list []) = some (.bool false) := e0
    have h17' : ρ 17 = .im (.list []) := h17
    simp [b21, h17', szOk, e0']
  · rw [List.concat_eq_append] at *
    have e0' : neD (.list ((a ++ [z]).map eT)) (.list []) = some (.bool true) := by rw [e0]; simp
    obtain ⟨T', rfl, _, h15⟩ := A.o41
    have eb := bad_snoc a z s
    have al : a.length ≤ 8 := by rw [List.length_append] at tl; simp at tl; omega
    have ga : Good a s := fun t ht => d.gd t (by simp [ht])
    have zb : ¬ (0 ≤ (z.2.1 + (s : Int)) ∧ (z.2.1 + (s : Int)) < s) := by
      have := d.gd z (by simp)
      omega
    have gw : ∀ t ∈ badOf (a ++ [z]) s, t.1.length ≤ 8000000 := fun t ht => by
      rw [eb] at ht
      rcases List.mem_append.mp ht with h | h
      · exact Nat.le_trans (d.pw t (by simp [h])) (by omega)
      · rw [List.mem_singleton.mp h]
        exact Nat.le_trans (d.pw z (by simp)) (by omega)
    have bl : (badOf (a ++ [z]) s).length ≤ 9 := by rw [eb]; simp; omega
    have c1 := run41x (h15 (.list ((badOf (a ++ [z]) s).map eT)) s a [] (z.1, z.2.1 + s, z.2.2) (good_up (n := 3) (good_list (by rw [List.length_map]; omega) (good_Ts gw)) (by omega)) (by show PyData.tuple (tDs _) = _; rw [tD_Ts, eb]) ga zb)
    have z0 : PyData.tuple [.tuple [], .int (-1), .tuple [.int 1, .int 1]] = eT (([], -1, 1) : Tm) := by rfl
    have c2 := run41x (h15 (.list (((([], -1, 1) : Tm) :: badOf (a ++ [z]) s).map eT)) s [] (badOf (a ++ [z]) s) (([], -1, 1) : Tm) (good_up (n := 3) (good_list (by rw [List.length_map, List.length_cons]; omega) (good_Ts fun t ht => by
      rcases List.mem_cons.mp ht with rfl | ht
      · simp
      · exact gw t ht)) (by omega)) (by show PyData.tuple (tDs _) = _; rw [tD_Ts]; rfl) (fun t ht => by cases ht) (by show ¬ (0 ≤ (-1 : Int) ∧ (-1 : Int) < s); omega))
    have ad : addU (.list [eT (([], -1, 1) : Tm)]) (.list ((badOf (a ++ [z]) s).map eT)) = some (.list (((([], -1, 1) : Tm) :: badOf (a ++ [z]) s).map eT)) := by
      rw [add_list (szOk_of (by rw [List.length_map]; simp; omega))]
      rfl
    have lx : ixU (.list ((badOf (a ++ [z]) s).map eT)) (.int (-1)) = some (eT (z.1, z.2.1 + s, z.2.2)) := by
      rw [eb, List.map_append]
      exact ix_lastL _ _
    have ip : ixU (eT (z.1, z.2.1 + s, z.2.2)) (.int 1) = some (.int (z.2.1 + s)) := by unfold eT; simp
    have n1 : neD (.list [.str (Str.ofString "NoRegister"), .int (z.2.1 + s), .bool true]) (.list [.str (Str.ofString "NoRegister"), .int (z.2.1 + s), .bool true]) = some (.bool false) := ne_reg (z.2.1 + s)
    have n2 : neD (.list [.str (Str.ofString "NoRegister"), .int (-1), .bool true]) (.list [.str (Str.ofString "NoRegister"), .int (-1), .bool true]) = some (.bool false) := ne_reg (-1)
    simp [b21, h17, h4, h29, szOk, e0', ocV_ok c1, lx, ip, n1, z0, ad, ocV_ok c2, n2, -List.map_append, -List.map_cons]
end
end Rf
end
section
set_option Elab.async false
set_option linter.all false
set_option maxRecDepth 100000
set_option maxHeartbeats 4000000
/-! S23: the law's turn: SUMS whose first METHODS are turned about, and fronts of WORDS. -/
namespace Rf
open PySem PySem.Spec L2
/-! ### the first METHOD turned about -/
def negW : Q.W → Q.W
  | [] => []
  | a :: u => (-1 - a) :: u
theorem negW_two (w : Q.W) : negW (negW w) = w := by
  cases w with
  | nil => rfl
  | cons a u =>
    show (-1 - (-1 - a)) :: u = _
    congr 1
    omega
theorem negW_len (w : Q.W) : (negW w).length = w.length := by cases w <;> rfl
def rawOf (m : Q.Mx) : Q.Mx := (m.filter fun p => !p.1.isEmpty).map fun p => (negW p.1, p.2)
def freeM (m : Q.Mx) : Q.Mx := Q.canon (rawOf m)
theorem mem_raw {m : Q.Mx} {p : Q.W × Rat} (h : p ∈ rawOf m) : ∃ r ∈ m, p = (negW r.1, r.2) := by
  unfold rawOf at h
  obtain ⟨r, hr, rfl⟩ := List.mem_map.mp h
  exact ⟨r, (List.mem_filter.mp hr).1, rfl⟩
theorem raw_nd {m : Q.Mx} (h : (Q.keys m).Nodup) : (Q.keys (rawOf m)).Nodup := by
  unfold Q.keys at *
  unfold rawOf
  rw [List.map_map]
  have h1 : ((m.filter fun p => !p.1.isEmpty).map (·.1)).Nodup := h.sublist ((List.filter_sublist (l := m)).map _)
  have e : (m.filter fun p => !p.1.isEmpty).map ((fun p : Q.W × Rat => p.1) ∘ fun p => (negW p.1, p.2)) = ((m.filter fun p => !p.1.isEmpty).map (·.1)).map negW := by rw [List.map_map]; rfl
  rw [e]
  refine List.Pairwise.map negW (fun a b hab hc => hab ?_) h1
  rw [← negW_two a, hc, negW_two]
theorem can_mem {m : Q.Mx} (h : (Q.keys m).Nodup) {p : Q.W × Rat} (hp : p ∈ Q.canon m) : p ∈ m := by
  obtain ⟨k1, k2⟩ := Q.canon_keys hp
  obtain ⟨r, hr, e⟩ := List.mem_map.mp k1
  have c := Q.coef_nodup h r hr
  rw [e] at c
  have : p = r := Prod.ext e.symm (by rw [k2, c])
  rw [this]
  exact hr
theorem Mz.raw {L n c : Nat} {m : Q.Mx} (h : Mz L n c m) : Mz L n c (rawOf m) := by
  refine ⟨?_, fun p hp => ?_, fun p hp => ?_⟩
  · unfold rawOf
    rw [List.length_map]
    exact Nat.le_trans (List.length_filter_le _ _) h.len
  · obtain ⟨r, hr, rfl⟩ := mem_raw hp
    show (negW r.1).length ≤ L
    rw [negW_len]
    exact h.ln r hr
  · obtain ⟨r, hr, rfl⟩ := mem_raw hp
    exact h.sz r hr
theorem Mz.free {L n c : Nat} {m : Q.Mx} (h : Mz L n c m) (k : Q.IsCan m) : Mz L n c (freeM m) :=
  ⟨Nat.le_trans (Q.canon_len _) h.raw.len, fun p hp => h.raw.ln p (can_mem (raw_nd (Q.can_nodup k)) hp), fun p hp => h.raw.sz p (can_mem (raw_nd (Q.can_nodup k)) hp)⟩
theorem ne_W0 (w : Q.W) : neD (eW w) (.tuple []) = some (.bool (!w.isEmpty)) := by
  unfold neD
  rw [shaped_W]
  cases w <;> rfl
theorem sum_le {l : List Q.Mx} {c : Nat} (h : ∀ m ∈ l, m.length ≤ c) : (l.map List.length).sum ≤ l.length * c := by
  induction l with
  | nil => simp
  | cons m l ih =>
    rw [List.map_cons, List.sum_cons, List.length_cons, Nat.succ_mul]
    have a := h m (by simp)
    have b := ih fun x hx => h x (by simp [hx])
    omega
theorem zip_graph {α β : Type} (g : α → β) : ∀ l : List α, (l.map g).zip l = l.map fun x => (g x, x)
  | [] => rfl
  | x :: l => by
    show (g x, x) :: (l.map g).zip l = _
    rw [zip_graph g l]
    rfl
section
variable {T : Nat → Fn} {ρ : Env} {k s : Nat} {near far one other : Q.Mx} {q : Rat} {ts : List Tm} {ls ms : List Q.Mx}
theorem b22_run (d : Sm3 k s ts ls ms) (f : Frm ρ) (h18 : ρ 18 = .im (eL ls)) : b22 T ρ = .ok .nx (ρ.put 31 (.im (eL (ls.map rawOf)))) := by
  have sl : ls.length = s := d.len
  have s1 := d.s1
  have cc := comp_map (ρ := ρ) (src := itsU (rdM 18)) (js := [28]) (step := stepM (Pat.nm 28) yesM (elM (un1 tupD (compM (itsU (rdM 28)) [13] (stepM (Pat.nm 13) (tstM (bin neD (bin ixU (rdM 13) (M.pure (PyData.int 0))) (tupM nilM))) (elM (tupM (consM (bin addU (tupM (consM (bin subD (negM (M.pure (PyData.int 1))) (bin ixU (bin ixU (rdM 13) (M.pure (PyData.int 0))) (M.pure (PyData.int 0)))) nilM)) (slM slD (bin ixU (rdM 13) (M.pure (PyData.int 0))) (somePt (M.pure (PyData.int 1))) noPt)) (consM (bin ixU (rdM 13) (M.pure (PyData.int 1))) nilM)))))))))
    ls eM (fun m => eM (rawOf m)) (by simp [h18, eL]) (by simp [nonM, f 28 (by omega)]) (szOk_of (by omega)) (fun m hm => by
      have m1 := d.ml m hm
      have cf := comp_filt (ρ := (wipeE ρ [28]).put 28 (.im (eM m))) (src := itsU (rdM 28)) (js := [13]) (step := stepM (Pat.nm 13) (tstM (bin neD (bin ixU (rdM 13) (M.pure (PyData.int 0))) (tupM nilM))) (elM (tupM (consM (bin addU (tupM (consM (bin subD (negM (M.pure (PyData.int 1))) (bin ixU (bin ixU (rdM 13) (M.pure (PyData.int 0))) (M.pure (PyData.int 0)))) nilM)) (slM slD (bin ixU (rdM 13) (M.pure (PyData.int 0))) (somePt (M.pure (PyData.int 1))) noPt)) (consM (bin ixU (rdM 13) (M.pure (PyData.int 1))) nilM)))))
        m eP (fun p => eP (negW p.1, p.2)) (fun p => !p.1.isEmpty) (by simp [eM]) (by simp [nonM, f 13 (by omega)]) (szOk_of (Nat.le_trans m1.len (by omega))) (fun p hp => by
          obtain ⟨w, r⟩ := p
          have i0 : ixU (eP (w, r)) (.int 0) = some (eW w) := by unfold eP; simp
          have i1 : ixU (eP (w, r)) (.int 1) = some (eF r) := by unfold eP; simp
          have ne := ne_W0 w
          cases w with
          | nil => exact ⟨_, by simp [i0, ne, szOk]; rfl, agr_put agr_wipe rfl⟩
          | cons a u =>
            have i2 : ixU (eW (a :: u)) (.int 0) = some (.int a) := by unfold eW; simp
            have e1 : slD (eW (a :: u)) (some 1) none = some (eW u) := by
              have := cut_lo (a :: u) 1 (by simp)
              rw [slD_W]
              show some (PyData.tuple (cutDs ((a :: u).map .int) (some ((1 : Nat) : Int)) none)) = _
              rw [this]
              rfl
            have ul : u.length ≤ 3 := by have := m1.ln _ hp; simp at this; omega
            have ad : addU (.tuple [.int (-1 - a)]) (eW u) = some (eW (negW (a :: u))) := by
              unfold eW
              rw [add_tup (szOk_of (by rw [List.length_map]; show 1 + _ ≤ _; omega))]
              rfl
            exact ⟨_, by simp [i0, i1, i2, ne, szOk, e1, ad]; exact ⟨rfl, rfl⟩, agr_put agr_wipe rfl⟩)
      have es : (m.filter fun p => !p.1.isEmpty).map (fun p => eP (negW p.1, p.2)) = (rawOf m).map eP := by unfold rawOf; rw [List.map_map]; rfl
      rw [es] at cf
      exact ⟨_, by simp [cf]; exact ⟨rfl, rfl⟩, agr_put agr_wipe rfl⟩)
  have e : ls.map (fun m => eM (rawOf m)) = (ls.map rawOf).map eM := by rw [List.map_map]; rfl
  rw [e] at cc
  simp [b22, cc, f.n 31 (by omega), eL, -List.map_map]
theorem b23_run (A : AllOk T) (d : Sm3 k s ts ls ms) (f : Frm ρ) (h31 : ρ 31 = .im (eL (ls.map rawOf))) : b23 T ρ = .ok .nx (ρ.put 31 (.im (eL (ls.map freeM)))) := by
  have sl : ls.length = s := d.len
  have s1 := d.s1
  have cc := comp_map (ρ := ρ) (src := itsU (rdM 31)) (js := [28]) (step := stepM (Pat.nm 28) yesM (elM (callM (T 42) [Md.dt] [Ar.dt (un1 listD (rdM 28))])))
    ls (fun m => eM (rawOf m)) (fun m => eM (freeM m)) (by simp [h31, eL]) (by simp [nonM, f 28 (by omega)]) (szOk_of (by omega)) (fun m hm => by
      have m1 := (d.ml m hm).raw
      have c := A.o42 _ _ (rawOf m) (.inl rfl) (m1.bnd (by omega)) (by have := m1.len; omega)
      have li : listD (eM (rawOf m)) = some (.list ((rawOf m).map eP)) := rfl
      exact ⟨_, by simp [li, ocV_ok c]; exact ⟨rfl, rfl⟩, agr_put agr_wipe rfl⟩)
  have e : ls.map (fun m => eM (freeM m)) = (ls.map freeM).map eM := by rw [List.map_map]; rfl
  rw [e] at cc
  simp [b23, cc, f.n 31 (by omega), eL, -List.map_map]
theorem Sm3.fr (d : Sm3 k s ts ls ms) : ∀ m ∈ ls.map freeM, Mz 3 28 9 m ∧ Q.IsCan m := fun m hm => by
  obtain ⟨r, hr, rfl⟩ := List.mem_map.mp hm
  exact ⟨(d.ml r hr).free (d.can r hr), Q.canon_can _⟩
def got3 (ls : List Q.Mx) : D := .list [.tuple (ls.map fun m => eM (Q.canon (freeM m ++ m))), .tuple ((ls.map freeM).map fun m => eM (scale m 2)), .int (maxI (0 :: lens (ls.map freeM)))]
theorem got3_good (d : Sm3 k s ts ls ms) : good 6 (got3 ls) = true := by
  have sl : ls.length = s := d.len
  have s1 := d.s1
  refine good_list (n := 5) (by simp) fun x hx => ?_
  simp only [List.mem_cons, List.not_mem_nil, or_false] at hx
  rcases hx with rfl | rfl | rfl
  · exact good_MM (xs := ls) (g := fun m => Q.canon (freeM m ++ m)) (by omega) (fun m hm => (((d.fr (freeM m) (List.mem_map.mpr ⟨m, hm, rfl⟩)).1.app (d.ml m hm)).canon)) (by omega) (by omega)
  · exact good_MM (xs := ls.map freeM) (g := fun m => scale m 2) (by rw [List.length_map]; omega) (fun m hm => (d.fr m hm).1.scale (q := 2) (n' := 3) ⟨by decide, by decide⟩) (by omega) (by omega)
  · rfl
theorem eF2 : eF 2 = .tuple [.int 2, .int 1] := by rfl
theorem b24_run (A : AllOk T) (d : Sm3 k s ts ls ms) (f : Frm ρ) (h18 : ρ 18 = .im (eL ls)) (h31 : ρ 31 = .im (eL (ls.map freeM))) : b24 T ρ = .ok .nx ρ := by
  have sl : ls.length = s := d.len
  have s1 := d.s1
  have z2 : Q.Sz 3 (2 : Rat) := ⟨by decide, by decide⟩
  have fl : (ls.map freeM).length ≤ 3 := by rw [List.length_map]; omega
  have rl : (rowsOf (ls.map freeM)).length ≤ 27 := by
    rw [rowsOf_len]
    have := sum_le (l := ls.map freeM) (c := 9) fun m hm => (d.fr m hm).1.len
    omega
  have ll : (lens (ls.map freeM)).length ≤ 27 := by rw [← rows_lens, List.length_map]; exact rl
  have c20 := A.o20 (eL (ls.map freeM)) (eL ls) 28 (ls.map fun m => (eM (freeM m), freeM m, m)) (by
    show some ((ls.map freeM).map eM) = _
    rw [List.map_map, List.map_map]
    rfl) (by
    show some (ls.map eM) = _
    rw [List.map_map]
    rfl) (by rw [List.length_map]; omega) (fun z hz => by
    obtain ⟨m, hm, rfl⟩ := List.mem_map.mp hz
    have a := (d.fr (freeM m) (List.mem_map.mpr ⟨m, hm, rfl⟩)).1
    have b := d.ml m hm
    exact ⟨a.rd (by omega) (by omega), a.Ln (by omega), b.Ln (by omega), Nat.le_trans b.len (by omega), (a.app b).bnd (by omega)⟩)
  rw [List.map_map] at c20
  have e20 : ls.map ((fun z : D × Q.Mx × Q.Mx => eM (Q.canon (z.2.1 ++ z.2.2))) ∘ fun m => (eM (freeM m), freeM m, m)) = ls.map fun m => eM (Q.canon (freeM m ++ m)) := rfl
  rw [e20] at c20
  have c21 := A.o21 (eF 2) 31 (ls.map freeM) 2 (good_up (good_F 2) (by omega)) (tD_F 2) (z2.mono (by omega)) (by omega) (fun m hm => by
    have a := (d.fr m hm).1
    exact ⟨a.Ln (by omega), a.sm (by omega), Nat.le_trans a.len (by omega), (a.scale z2).bnd (by omega)⟩)
  have e21 : (ls.map freeM).map (fun m => eM (Q.canon (scale m 2))) = (ls.map freeM).map fun m => eM (scale m 2) := List.map_congr_left fun m hm => by
    have : Q.IsCan (scale m 2) := Q.can_map (d.fr m hm).2 (· * 2) fun q hq => by
      intro z
      rcases Rat.mul_eq_zero.mp z with z | z
      · exact hq z
      · exact absurd z (by decide)
    rw [Q.canon_of_can this]
  rw [e21, eF2] at c21
  have c26 := (A.o26 (ls.map freeM) (by omega)).1
  have c47 := A.o47 (ls.map freeM) (by omega)
  have k1 := zip_add A h31 h18 f (by omega) (fun m hm => (d.fr m hm).1) d.ml (by omega) (by omega)
  have e1 : ((ls.map freeM).zip ls).map (fun p => eM (Q.canon (p.1 ++ p.2))) = ls.map fun m => eM (Q.canon (freeM m ++ m)) := by
    rw [zip_graph, List.map_map]
    rfl
  rw [e1] at k1
  have k2 := comp_map (ρ := ρ) (src := itsU (rdM 31)) (js := [28]) (step := stepM (Pat.nm 28) yesM (elM (un1 tupD (compM (itsU (rdM 28)) [12, 13] (stepM (Pat.tp [Pat.nm 12, Pat.nm 13]) yesM (elM (tupM (consM (vrM 12) (consM (callM (T 39) [Md.dt, Md.dt] [Ar.dt (vrM 13), Ar.dt (tupM (consM (M.pure (PyData.int 2)) (consM (M.pure (PyData.int 1)) nilM)))]) nilM)))))))))
    (ls.map freeM) eM (fun m => eM (scale m 2)) (by simp [h31, eL]) (by simp [nonM, f 28 (by omega)]) (szOk_of (by omega)) (fun m hm => by
      have m1 := (d.fr m hm).1
      have ci := comp_map (ρ := (wipeE ρ [28]).put 28 (.im (eM m))) (src := itsU (rdM 28)) (js := [12, 13]) (step := stepM (Pat.tp [Pat.nm 12, Pat.nm 13]) yesM (elM (tupM (consM (vrM 12) (consM (callM (T 39) [Md.dt, Md.dt] [Ar.dt (vrM 13), Ar.dt (tupM (consM (M.pure (PyData.int 2)) (consM (M.pure (PyData.int 1)) nilM)))]) nilM)))))
        m eP (fun p => eP (p.1, p.2 * 2)) (by simp [eM]) (by simp [nonM, f 12 (by omega), f 13 (by omega)]) (szOk_of (Nat.le_trans m1.len (by omega))) (fun p hp => by
          have c := A.o39 p.2 2 ((m1.sz p hp).mono (by omega)) (z2.mono (by omega))
          rw [eF2] at c
          exact ⟨_, by simp [ocV_ok c, szOk]; exact ⟨rfl, rfl⟩, agr_put (agr_put agr_wipe rfl) rfl⟩)
      have es : m.map (fun p => eP (p.1, p.2 * 2)) = (scale m 2).map eP := by unfold scale; rw [List.map_map]; rfl
      rw [es] at ci
      exact ⟨_, by simp [ci]; exact ⟨rfl, rfl⟩, agr_put agr_wipe rfl⟩)
  have t47 : itsU (callM (T 47) [Md.dt] [Ar.dt (vrM 31)]) ρ = .ok ((rowsOf (ls.map freeM)).map eR) ρ := by simp [h31, ocV_ok c47]
  have k3 := comp_map (ρ := ρ) (src := itsU (callM (T 47) [Md.dt] [Ar.dt (vrM 31)])) (js := [32]) (step := stepM (Pat.nm 32) yesM (elM (un1 lenD (bin ixU (rdM 32) (M.pure (PyData.int 1))))))
    (rowsOf (ls.map freeM)) eR (fun t => PyData.int (t.1.length : Nat)) t47 (by simp [nonM, f 32 (by omega)]) (szOk_of (by omega)) (fun t _ => ⟨_, by simp [eR]; rfl, agr_put agr_wipe rfl⟩)
  have e3 : (rowsOf (ls.map freeM)).map (fun t => PyData.int (t.1.length : Nat)) = (lens (ls.map freeM)).map .int := by rw [← rows_lens, List.map_map]; rfl
  rw [e3] at k3
  have z3 : addU (.list [.int 0]) (.list ((lens (ls.map freeM)).map .int)) = some (.list ((0 :: lens (ls.map freeM)).map .int)) := by
    rw [add_list (szOk_of (by rw [List.length_map]; show 1 + _ ≤ _; omega))]
    rfl
  have mx := maxD_ints (a := 0) (ns := lens (ls.map freeM))
  have tp : ∀ (m : M D) (xs : List D), m ρ = .ok (.list xs) ρ → un1 tupD m ρ = .ok (.tuple xs) ρ := fun m xs h => by
    rw [ev_un1, h]
    rfl
  have k3' : un1 maxD (bin addU (lstM (consM (M.pure (PyData.int 0)) nilM)) (compM (itsU (callM (T 47) [Md.dt] [Ar.dt (vrM 31)])) [32] (stepM (Pat.nm 32) yesM (elM (un1 lenD (bin ixU (rdM 32) (M.pure (PyData.int 1)))))))) ρ = .ok (.int (maxI (0 :: lens (ls.map freeM)))) ρ := by
    simp [szOk, k3, z3, mx, -List.map_map, -List.map_cons]
  have g1 : callM (T 20) [Md.dt, Md.dt] [Ar.dt (vrM 31), Ar.dt (vrM 18)] ρ = .ok (.tuple (ls.map fun m => eM (Q.canon (freeM m ++ m)))) ρ := by simp [h31, h18, ocV_ok c20]
  have g2 : callM (T 21) [Md.dt, Md.dt] [Ar.dt (vrM 31), Ar.dt (tupM (consM (M.pure (PyData.int 2)) (consM (M.pure (PyData.int 1)) nilM)))] ρ = .ok (.tuple ((ls.map freeM).map fun m => eM (scale m 2))) ρ := by
    simp only [ev_call, arM_dt, arM_nil, ev_vr, h31]
    simp [szOk, ocV_ok c21, -List.map_map]
  have g3 : callM (T 26) [Md.dt] [Ar.dt (vrM 31)] ρ = .ok (.int (maxI (0 :: lens (ls.map freeM)))) ρ := by simp [h31, ocV_ok c26]
  exact same_run A (d := got3 ls) (lst_ok (cons_ok g1 (cons_ok g2 (cons_ok g3 (ev_nil (ρ := ρ))))) (szOk_of (by simp))) (lst_ok (cons_ok (tp _ _ k1) (cons_ok (tp _ _ k2) (cons_ok k3' (ev_nil (ρ := ρ))))) (szOk_of (by simp))) (got3_good d)
/-! ### fronts -/
theorem cal44 {t : D} {k most : Nat} {w : Q.W} {t1 : D} {a b : M D} (h0 : ρ 1 = .mu t) (ha : a ρ = .ok (.int (k : Nat)) ρ) (hb : b ρ = .ok (.int (most : Nat)) ρ) (c : T 44 [t, .int (k : Nat), .int (most : Nat)] = .ok (eW w) [t1]) : callM (T 44) [Md.io, Md.dt, Md.dt] [Ar.nm 1, Ar.dt a, Ar.dt b] ρ = .ok (eW w) (ρ.put 1 (.mu t1)) := by
  have se : sees ρ 1 = true := sees_of h0 (by simp)
  simp [se, ha, hb, h0, ocV_ok c]
  unfold upM
  rw [h0]
  rfl
theorem b25_run (A : AllOk T) {t : D} {n : Nat} (h1 : ρ 1 = .mu t) (ht : Tin t n) (hn : n ≤ 900000) (f : Frm ρ) (h3 : ρ 3 = .im (.int (k : Nat))) (k0 : 1 ≤ k) (k1 : k ≤ 3) : ∃ (w e : Q.W) (t' : D), b25 T ρ = .ok .nx (((ρ.put 1 (.mu t')).put 33 (.im (eW e))).put 12 (.im (eW w))) ∧ w.length ≤ 4 ∧ e.length ≤ 2 ∧ InW k w ∧ Tin t' (n + 24) := by
  obtain ⟨w, t1, c1, l1, p1, ht1⟩ := A.o44 t n k 4 ht (by omega) (by omega) (by omega) (by omega)
  obtain ⟨e, t2, c2, l2, p2, ht2⟩ := A.o44 t1 (n + 12) k 2 ht1 (by omega) (by omega) (by omega) (by omega)
  have dr1 := cal44 (ρ := ρ) (a := vrM 3) (b := M.pure (PyData.int 4)) h1 (by simp [h3]) (by simp) c1
  have dr2 := cal44 (ρ := ρ.put 1 (.mu t1)) (a := vrM 3) (b := M.pure (PyData.int 2)) rfl (by simp [h3]) (by simp) c2
  refine ⟨w, e, t2, ?_, l1, l2, p1, ht2⟩
  simp [b25, -ev_call, dr1, dr2, put_put, f.n 12 (by omega), f.n 33 (by omega)]
theorem b26_run (A : AllOk T) {w e : Q.W} (f : Frm ρ) (h12 : ρ 12 = .im (eW w)) (h33 : ρ 33 = .im (eW e)) (lw : w.length ≤ 4) (le : e.length ≤ 2) :
    ∃ ρ', b26 T ρ = .ok .nx ρ' ∧ (∀ j, j ≠ 34 → j ≠ 35 → ρ' j = ρ j) ∧ Frm ρ' := by
  have ad := add_W (u := w) (v := e) (by omega) (by omega)
  refine for_run (src := itsU (tupM (consM (vrM 12) (consM (bin addU (rdM 12) (rdM 33)) (consM (vrM 33) nilM))))) (p := .nm 34) (b := _) [w, w ++ e, e] eW
    (fun ws ρ' => (∀ j, j ≠ 34 → j ≠ 35 → ρ' j = ρ j) ∧ Frm ρ') (ρ := ρ) (ρ0 := ρ) (by simp [h12, h33, ad, szOk]) ⟨fun _ _ _ => rfl, f⟩ (fun ws u us ρ1 ee ⟨rj, rf⟩ => ?_)
  have ul : u.length ≤ 6 := by
    have hu : u ∈ [w, w ++ e, e] := by rw [ee]; simp
    simp only [List.mem_cons, List.not_mem_nil, or_false] at hu
    rcases hu with rfl | rfl | rfl
    · omega
    · rw [List.length_append]; omega
    · omega
  have r33 : ρ1 33 = .im (eW e) := by rw [rj 33 (by omega) (by omega)]; exact h33
  have gf : good 6 (frontD u e) = true := by
    unfold frontD frontO
    split
    · rename_i w' hw
      split at hw
      · cases hw
        exact good_up (good_W (by rw [List.length_take]; omega)) (by omega)
      · cases hw
    · rfl
  have xu := A.o35 (eW u) (good_up (good_W (by omega)) (by omega))
  have xe := A.o35 (eW e) (good_up (good_W (by omega)) (by omega))
  have c27 := A.o27 (lD (eW u)) (lD (eW e)) u e (by rw [good_lD]; exact good_up (good_W (by omega)) (by omega)) (by rw [tD_lD, tD_W]) (by rw [good_lD]; exact good_up (good_W (by omega)) (by omega)) (by rw [tD_lD, tD_W])
  have main : ∃ bo : Bool, asM (Pat.nm 35) (andM (bin eqD (slM slD (rdM 34) (somePt (bin subD (un1 lenD (rdM 34)) (un1 lenD (rdM 33)))) noPt) (rdM 33)) (bin geD (un1 lenD (rdM 34)) (un1 lenD (rdM 33)))) (ρ1.put 34 (.im (eW u))) = .ok .nx ((ρ1.put 34 (.im (eW u))).put 35 (.im (.bool bo))) ∧
      iteM (truM (rdM 35)) (slM slD (rdM 34) noPt (somePt (bin subD (un1 lenD (rdM 34)) (un1 lenD (rdM 33))))) (M.pure PyData.none) ((ρ1.put 34 (.im (eW u))).put 35 (.im (.bool bo))) = .ok (frontD u e) ((ρ1.put 34 (.im (eW u))).put 35 (.im (.bool bo))) := by
    by_cases hl : e.length ≤ u.length
    · have hk : (u.length : Int) - (e.length : Int) = ((u.length - e.length : Nat) : Int) := by omega
      have e1 : slD (eW u) (some ((u.length - e.length : Nat) : Int)) none = some (eW (u.drop (u.length - e.length))) := by
        rw [slD_W, cut_lo u _ (Nat.sub_le _ _)]
        rfl
      have e2 : slD (eW u) none (some ((u.length - e.length : Nat) : Int)) = some (eW (u.take (u.length - e.length))) := by
        rw [slD_W, cut_hi u _ (Nat.sub_le _ _)]
        rfl
      unfold frontD frontO
      by_cases he : u.drop (u.length - e.length) = e
      · rw [if_pos ⟨hl, he⟩]
        rw [he] at e1
        exact ⟨true, by simp [r33, hk, e1, eq_WW, hl, rf.n 35 (by omega)], by simp [r33, hk, e2]⟩
      · rw [if_neg fun z => he z.2]
        have hb : (u.drop (u.length - e.length) == e) = false := by simpa using he
        exact ⟨false, by simp [r33, hk, e1, eq_WW, hl, hb, rf.n 35 (by omega)], by simp⟩
    · unfold frontD frontO
      rw [if_neg fun z => hl z.1]
      obtain ⟨ys, hy, _, _⟩ := cut_mem PyData.int u (some ((u.length : Int) - (e.length : Int))) none
      have e1 : slD (eW u) (some ((u.length : Int) - (e.length : Int))) none = some (eW ys) := by
        rw [slD_W, hy]
        rfl
      refine ⟨false, ?_, by simp⟩
      by_cases he : ys = e
      · subst he
        simp [r33, e1, eq_WW, hl, rf.n 35 (by omega)]
      · have hb : (ys == e) = false := by simpa using he
        simp [r33, e1, eq_WW, hb, rf.n 35 (by omega)]
  obtain ⟨bo, a1, a2⟩ := main
  have sr := same_run A (ρ := (ρ1.put 34 (.im (eW u))).put 35 (.im (.bool bo))) (x := callM (T 27) [Md.dt, Md.dt] [Ar.dt (callM (T 35) [Md.dt] [Ar.dt (vrM 34)]), Ar.dt (callM (T 35) [Md.dt] [Ar.dt (vrM 33)])]) (y := iteM (truM (rdM 35)) (slM slD (rdM 34) noPt (somePt (bin subD (un1 lenD (rdM 34)) (un1 lenD (rdM 33))))) (M.pure PyData.none)) (d := frontD u e) (by simp [r33, ocV_ok xu, ocV_ok xe, ocV_ok c27]) a2 gf
  refine ⟨ρ1.put 34 (.im (eW u)), (ρ1.put 34 (.im (eW u))).put 35 (.im (.bool bo)), by simp [rf.n 34 (by omega)], ?_, fun j h h2 => ?_, fr_put (fr_put rf)⟩
  · rw [ev_seq, a1]
    simp only [ob_ok]
    rw [ev_seq, sr]
    simp
  · simp [h, h2, rj j h h2]
end
end Rf
end
section
set_option Elab.async false
set_option linter.all false
set_option maxRecDepth 100000
set_option maxHeartbeats 4000000
/-! S24: the law's turn: what is plain. -/
namespace Rf
open PySem PySem.Spec L2
theorem rises_of : ∀ {ws : List Q.W}, ws.Pairwise (fun u v => ltW u v = true) → risesB ws = true
  | [], _ => rfl
  | [_], _ => rfl
  | a :: b :: ws, h => by
    have i := rises_of (List.pairwise_cons.mp h).2
    have l : ltW a b = true := (List.pairwise_cons.mp h).1 b (by simp)
    show (ltW a b && risesB (b :: ws)) = true
    rw [l, i]
    rfl
theorem can_rises {m : Q.Mx} (h : Q.IsCan m) : risesB (Q.keys m) = true := by
  refine rises_of ?_
  unfold Q.keys
  rw [List.pairwise_map]
  refine h.asc.imp fun {p r} hp => ?_
  obtain ⟨a, b⟩ := hp
  unfold ltW
  unfold Q.wle at a
  rw [decide_eq_true_eq] at a ⊢
  rcases a with a | ⟨a, c⟩
  · exact .inl a
  · refine .inr ⟨a, ?_⟩
    by_cases z : p.1 < r.1
    · exact z
    · exact absurd (List.le_antisymm c (List.not_lt.mp z)) b
theorem word_yes {k : Nat} {w : Q.W} (h : InW k w) : wordB (k : Int) (eW w) = true := by
  show (w.map PyData.int).all (letB (k : Int)) = true
  rw [List.all_map, List.all_eq_true]
  intro i hi
  show (decide (0 ≤ i) && decide (i < (k : Int))) = true
  rw [decide_eq_true (h i hi).1, decide_eq_true (h i hi).2]
  rfl
theorem word_snoc {k : Int} (w : Q.W) {x : D} (h : letB k x = false) : wordB k (.tuple (w.map .int ++ [x])) = false := by
  show (w.map PyData.int ++ [x]).all (letB k) = false
  rw [List.all_append]
  show ((w.map PyData.int).all (letB k) && (letB k x && true)) = false
  rw [h]
  simp
theorem cut_one {α : Type} (f : α → D) (x : α) (xs : List α) : cutDs ((x :: xs).map f) (some 1) none = xs.map f := by
  unfold cutDs
  have : HT.sIx ((x :: xs).map f).length 0 (some 1) = min 1 ((x :: xs).map f).length := HT.sIx_nat _ _ 1
  rw [HT.sIx_none, this, List.length_map]
  have : min 1 (x :: xs).length = 1 := by simp
  rw [this]
  show (xs.map f).take (xs.length + 1 - 1) = _
  exact List.take_of_length_le (by simp)
theorem mul_one_tup {s : Nat} (s0 : 1 ≤ s) (s1 : s ≤ 3) : mulD (.tuple [.tuple []]) (.int (s : Nat)) = some (.tuple (List.replicate s (.tuple []))) := by
  obtain rfl | rfl | rfl : s = 1 ∨ s = 2 ∨ s = 3 := by omega
  · rfl
  · rfl
  · rfl
def gotB : List Bool := [true, true, true, false, false, true, true]
def goods : D := .list (gotB.map .bool)
theorem put_self {ρ : Env} {i : Nat} {s : Sl} (h : ρ i = s) : ρ.put i s = ρ := by
  funext j
  show (if j = i then s else ρ j) = ρ j
  split
  · rename_i e
    rw [e, h]
  · rfl
section
variable {T : Nat → Fn} {ρ : Env} {k s : Nat} {near far one other : Q.Mx} {q : Rat} {ts : List Tm} {ls ms : List Q.Mx}
theorem Dr.can (r : Dr k near far one other q) : Q.IsCan one := by rw [r.e1]; exact Q.canon_can _
theorem Dr.inw (r : Dr k near far one other q) : ∀ p ∈ one, InW k p.1 := fun p hp => by
  rw [r.e1] at hp
  obtain ⟨x, hx, e⟩ := canon_word hp
  rw [← e]
  exact (r.pn x hx).2.1
theorem mix11 {T : Nat → Fn} (h : Ok11 T) {L n c : Nat} {m : Q.Mx} (z : Mz L n c m) (hL : L ≤ 8000000) (hc : c ≤ 1000000) (hcan : Q.IsCan m) (hi : ∀ p ∈ m, InW k p.1) : T 11 [eM m, .int (k : Nat)] = .ok (.bool true) [] := by
  rw [h m k (z.Ln hL) (Nat.le_trans z.len hc) fun p hp => ⟨hcan.nz p hp, hi p hp⟩, can_rises hcan]
theorem b27_run (A : AllOk T) (d : Sm3 k s ts ls ms) (r : Dr k near far one other q) (f : Frm ρ) {w : Q.W} (lw : w.length ≤ 4) (iw : InW k w) (h3 : ρ 3 = .im (.int (k : Nat))) (h4 : ρ 4 = .im (.int (s : Nat))) (h7 : ρ 7 = .im (eM one)) (h12 : ρ 12 = .im (eW w)) (h18 : ρ 18 = .im (eL ls)) : b27 T ρ = .ok .nx (ρ.put 36 (.im goods)) := by
  have sl : ls.length = s := d.len
  have s1 := d.s1
  have s0 := d.s0
  have m1 := mix11 A.o11 r.m1 (by omega) (by omega) r.can r.inw
  have w1 := A.o10 (eW w) 1 k (good_W (by omega))
  rw [word_yes iw] at w1
  have w2 := A.o10 (.tuple (w.map .int ++ [.int (k : Nat)])) 1 k (good_tuple (by simp; omega) fun x hx => by
    rcases List.mem_append.mp hx with h | h
    · obtain ⟨i, _, rfl⟩ := List.mem_map.mp h
      rfl
    · rw [List.mem_singleton.mp h]
      rfl)
  rw [word_snoc w (by show (decide (0 ≤ (k : Int)) && decide ((k : Int) < (k : Int))) = false; simp)] at w2
  have n11 : T 11 [eM [], .int (0 : Nat)] = .ok (.bool true) [] := mix11 (k := 0) A.o11 (m := []) (L := 0) (n := 0) (c := 0) ⟨by simp, fun p hp => (by cases hp), fun p hp => (by cases hp)⟩ (by omega) (by omega) ⟨List.Pairwise.nil, fun p hp => (by cases hp)⟩ fun p hp => (by cases hp)
  obtain ⟨T', rfl, h2, h11, h11n⟩ := A.o12
  have q1 := ok12 (k := (k : Int)) (n := s) h2 (xs := ls.map eM) (g := fun _ => true) (by rw [List.length_map]; exact sl) (by omega) (fun x hx => by
    obtain ⟨m, hm, rfl⟩ := List.mem_map.mp hx
    exact mix11 h11 (d.ml m hm) (by omega) (by omega) (d.can m hm) (d.inw m hm))
  rw [show (ls.map eM).all (fun _ => true) = true by simp] at q1
  have q2 := ok12n (k := (k : Int)) (n := s + 1) h2 (d := eL ls) rfl (by show decide ((ls.map eM).length = s + 1) = false; rw [List.length_map]; simp; omega)
  rw [show (((s + 1 : Nat)) : Int) = (s : Int) + 1 by omega] at q2
  have q3 := ok12 (k := ((0 : Nat) : Int)) (n := s) h2 (xs := List.replicate s (.tuple [])) (g := fun _ => true) (by simp) (by omega) (fun x hx => by
    rw [(List.mem_replicate.mp hx).2]
    exact mix11 (k := 0) h11 (m := []) (L := 0) (n := 0) (c := 0) ⟨by simp, fun p hp => (by cases hp), fun p hp => (by cases hp)⟩ (by omega) (by omega) ⟨List.Pairwise.nil, fun p hp => (by cases hp)⟩ fun p hp => (by cases hp))
  rw [show (List.replicate s (PyData.tuple [])).all (fun _ => true) = true by simp] at q3
  have ad : addU (eW w) (.tuple [.int (k : Nat)]) = some (.tuple (w.map .int ++ [.int (k : Nat)])) := by
    unfold eW
    exact add_tup (szOk_of (by rw [List.length_map]; show _ + 1 ≤ _; omega))
  have mu := mul_one_tup s0 s1
  have g1 : callM (S0.up T' 10) [Md.dt, Md.dt] [Ar.dt (vrM 12), Ar.dt (vrM 3)] ρ = .ok (.bool true) ρ := by simp [h12, h3, ocV_ok w1]
  have g2 : callM (S0.up T' 11) [Md.dt, Md.dt] [Ar.dt (vrM 7), Ar.dt (vrM 3)] ρ = .ok (.bool true) ρ := by simp [h7, h3, ocV_ok m1]
  have g3 : callM (S0.up T' 12) [Md.dt, Md.dt, Md.dt] [Ar.dt (vrM 18), Ar.dt (vrM 4), Ar.dt (vrM 3)] ρ = .ok (.bool true) ρ := by
    have q1' : S0.up T' 12 [eL ls, .int (s : Nat), .int (k : Nat)] = .ok (.bool true) [] := q1
    simp [h18, h4, h3, ocV_ok q1']
  have g4 : callM (S0.up T' 12) [Md.dt, Md.dt, Md.dt] [Ar.dt (vrM 18), Ar.dt (bin addU (rdM 4) (M.pure (PyData.int 1))), Ar.dt (vrM 3)] ρ = .ok (.bool false) ρ := by simp [h18, h4, h3, ocV_ok q2]
  have g5 : callM (S0.up T' 10) [Md.dt, Md.dt] [Ar.dt (bin addU (rdM 12) (tupM (consM (vrM 3) nilM))), Ar.dt (vrM 3)] ρ = .ok (.bool false) ρ := by simp [h12, h3, szOk, ad, ocV_ok w2]
  have g6 : callM (S0.up T' 11) [Md.dt, Md.dt] [Ar.dt (tupM nilM), Ar.dt (M.pure (PyData.int 0))] ρ = .ok (.bool true) ρ := by
    have n11' : S0.up T' 11 [.tuple [], .int 0] = .ok (.bool true) [] := n11
    simp [szOk, ocV_ok n11']
  have g7 : callM (S0.up T' 12) [Md.dt, Md.dt, Md.dt] [Ar.dt (bin mulD (tupM (consM (tupM nilM) nilM)) (rdM 4)), Ar.dt (vrM 4), Ar.dt (M.pure (PyData.int 0))] ρ = .ok (.bool true) ρ := by
    have q3' : S0.up T' 12 [.tuple (List.replicate s (.tuple [])), .int (s : Nat), .int 0] = .ok (.bool true) [] := q3
    simp [szOk, h4, mu, ocV_ok q3']
  exact as_ok 36 (lst_ok (cons_ok g1 (cons_ok g2 (cons_ok g3 (cons_ok g4 (cons_ok g5 (cons_ok g6 (cons_ok g7 (ev_nil (ρ := ρ)))))))))  (szOk_of (by show 7 ≤ 16777216; omega))) (f 36 (by omega))
theorem cal46 {t : D} {wr : List D} (h1 : ρ 1 = .mu t) (h7 : ρ 7 = .im (eM one)) (c : T 46 [t, eM one] = .ok (.list wr) [t]) : callM (T 46) [Md.io, Md.dt] [Ar.nm 1, Ar.dt (vrM 7)] ρ = .ok (.list wr) ρ := by
  have se : sees ρ 1 = true := sees_of h1 (by simp)
  have e : callM (T 46) [Md.io, Md.dt] [Ar.nm 1, Ar.dt (vrM 7)] ρ = .ok (.list wr) (ρ.put 1 (.mu t)) := by
    simp [se, h7, h1, ocV_ok c]
    unfold upM
    rw [h1]
    rfl
  rw [e, put_self h1]
theorem no_list0 : neD (.list []) (.list []) = some (.bool false) := by rfl
theorem no_goods : neD goods (.list [.bool true, .bool true, .bool true, .bool false, .bool false, .bool true, .bool true]) = some (.bool false) := by rfl
theorem filt_none {α : Type} (l : List α) (f : α → D) : (l.filter fun _ => false).map f = [] := by
  rw [show (l.filter fun _ => false) = [] by simp]
  rfl
theorem b28_run (A : AllOk T) {t : D} (d : Sm3 k s ts ls ms) (r : Dr k near far one other q) (f : Frm ρ) (h1 : ρ 1 = .mu t) (h3 : ρ 3 = .im (.int (k : Nat))) (h4 : ρ 4 = .im (.int (s : Nat))) (h7 : ρ 7 = .im (eM one)) (h18 : ρ 18 = .im (eL ls)) (h36 : ρ 36 = .im goods) : b28 T ρ = .ok .nx ρ := by
  have sl : ls.length = s := d.len
  have s1 := d.s1
  have s0 := d.s0
  have k1 := r.k1
  obtain ⟨wr, c46, wl, ww⟩ := A.o46 t k one (r.m1.Ln (by omega)) (Nat.le_trans r.m1.len (by omega)) (fun p hp => Nat.le_trans (r.m1.ln p hp) (by omega)) (by omega) r.can r.inw
  have cal := cal46 (ρ := ρ) h1 h7 c46
  have src : itsU (callM (T 46) [Md.io, Md.dt] [Ar.nm 1, Ar.dt (vrM 7)]) ρ = .ok (wr.map id) ρ := by
    simp [-ev_call, cal]
  have no : ∀ {T : Nat → Fn}, Ok11 T → Ok11n T → ∀ x ∈ wr, T 11 [x, .int (k : Nat)] = .ok (.bool false) [] := fun h hn x hx => by
    obtain ⟨g, hb | ⟨m, rfl, a, b, c, e⟩⟩ := ww x hx
    · exact hn x 6 k g hb
    · rw [h m k a b c, e]
  have e1 := comp_filt (ρ := ρ) (src := itsU (callM (T 46) [Md.io, Md.dt] [Ar.nm 1, Ar.dt (vrM 7)])) (js := [37]) (step := stepM (Pat.nm 37) (truM (callM (T 11) [Md.dt, Md.dt] [Ar.dt (vrM 37), Ar.dt (vrM 3)])) (elM (vrM 37))) wr id id (fun _ => false) src (by simp [nonM, f 37 (by omega)]) (szOk_of (by omega)) (fun x hx => ⟨_, by simp [h3, ocV_ok (no A.o11 A.o11n x hx)]; rfl, agr_put agr_wipe rfl⟩)
  rw [filt_none] at e1
  obtain ⟨x0, xs, rfl⟩ : ∃ x0 xs, ls = x0 :: xs := by
    cases ls with
    | nil => simp at sl; omega
    | cons x0 xs => exact ⟨x0, xs, rfl⟩
  have es : slD (eL (x0 :: xs)) (some 1) none = some (.tuple (xs.map eM)) := by
    show some (PyData.tuple (cutDs ((x0 :: xs).map eM) (some 1) none)) = _
    rw [cut_one]
  rw [List.length_cons] at sl
  obtain ⟨T', rfl, h2, h11, h11n⟩ := A.o12
  have e2 := comp_filt (ρ := ρ) (src := itsU (callM (S0.up T' 46) [Md.io, Md.dt] [Ar.nm 1, Ar.dt (vrM 7)])) (js := [37]) (step := stepM (Pat.nm 37) (truM (callM (S0.up T' 12) [Md.dt, Md.dt, Md.dt] [Ar.dt (bin addU (tupM (consM (vrM 37) nilM)) (slM slD (rdM 18) (somePt (M.pure (PyData.int 1))) noPt)), Ar.dt (vrM 4), Ar.dt (vrM 3)])) (elM (vrM 37))) wr id id (fun _ => false) src (by simp [nonM, f 37 (by omega)]) (szOk_of (by omega)) (fun x hx => by
    have c := ok12 (k := (k : Int)) (n := s) h2 (xs := x :: xs.map eM) (g := fun y => match T' 11 [y, .int (k : Nat)] with | .ok (.bool b) _ => b | _ => false) (by simp; omega) (by omega) (fun y hy => by
      rcases List.mem_cons.mp hy with rfl | hy
      · simp [no h11 h11n y hx]
      · obtain ⟨m, hm, rfl⟩ := List.mem_map.mp hy
        simp [mix11 (k := k) h11 (d.ml m (by simp [hm])) (by omega) (by omega) (d.can m (by simp [hm])) (d.inw m (by simp [hm]))])
    rw [List.all_cons] at c
    simp only [no h11 h11n x hx, Bool.false_and] at c
    have ad : addU (.tuple [x]) (.tuple (xs.map eM)) = some (.tuple (x :: xs.map eM)) := add_tup (szOk_of (by rw [List.length_map]; show 1 + _ ≤ _; omega))
    exact ⟨_, by simp [h18, h4, h3, szOk, es, ad, ocV_ok c]; rfl, agr_put agr_wipe rfl⟩)
  rw [filt_none] at e2
  have e0 : lstM (consM (M.pure (PyData.bool true)) (consM (M.pure (PyData.bool true)) (consM (M.pure (PyData.bool true)) (consM (M.pure (PyData.bool false)) (consM (M.pure (PyData.bool false)) (consM (M.pure (PyData.bool true)) (consM (M.pure (PyData.bool true)) nilM))))))) ρ = .ok (.list [.bool true, .bool true, .bool true, .bool false, .bool false, .bool true, .bool true]) ρ := by simp [szOk]
  simp [b28, h36, szOk, no_goods, e1, e2, no_list0]
theorem zero_good : good 0 (.str (Str.ofString "0")) = true := by
  show SeqAt.shaped (.str (Str.ofString "0")) = true
  decide +kernel
theorem b29_run (A : AllOk T) (f : Frm ρ) {w : Q.W} (lw : w.length ≤ 4) (hs : ls.length ≤ 3) (h3 : ρ 3 = .im (.int (k : Nat))) (h4 : ρ 4 = .im (.int (s : Nat))) (h12 : ρ 12 = .im (eW w)) (h18 : ρ 18 = .im (eL ls)) : b29 T ρ = .ok .nx ρ := by
  have ad : addU (eW w) (.tuple [.none]) = some (.tuple (w.map .int ++ [.none])) := by
    unfold eW
    exact add_tup (szOk_of (by rw [List.length_map]; show _ + 1 ≤ _; omega))
  have li : listD (eW w) = some (.list (w.map .int)) := rfl
  have gi : ∀ x ∈ w.map PyData.int, good 0 x = true := fun x hx => by
    obtain ⟨i, _, rfl⟩ := List.mem_map.mp hx
    rfl
  have e1 := comp_filt (ρ := ρ) (src := itsU (tupM (consM (un1 listD (rdM 12)) (consM (M.pure PyData.none) (consM (M.pure (PyData.int 0)) (consM (tupM (consM (M.pure (PyData.bool true)) nilM)) (consM (tupM (consM (negM (M.pure (PyData.int 1))) nilM)) (consM (bin addU (rdM 12) (tupM (consM (M.pure PyData.none) nilM))) (consM (M.pure (PyData.str (Str.ofString "0"))) nilM))))))))) (js := [37]) (step := stepM (Pat.nm 37) (truM (callM (T 10) [Md.dt, Md.dt] [Ar.dt (vrM 37), Ar.dt (vrM 3)])) (elM (vrM 37)))
    [PyData.list (w.map .int), .none, .int 0, .tuple [.bool true], .tuple [.int (-1)], .tuple (w.map .int ++ [.none]), .str (Str.ofString "0")] id id (fun _ => false) (by simp [h12, szOk, li, ad]) (by simp [nonM, f 37 (by omega)]) (szOk_of (by simp)) (fun x hx => by
      have c : T 10 [x, .int (k : Nat)] = .ok (.bool false) [] := by
        simp only [List.mem_cons, List.not_mem_nil, or_false] at hx
        rcases hx with rfl | rfl | rfl | rfl | rfl | rfl | rfl
        · exact A.o10 _ 1 k (good_list (by rw [List.length_map]; omega) gi)
        · exact A.o10 _ 1 k rfl
        · exact A.o10 _ 1 k rfl
        · exact A.o10 _ 1 k rfl
        · exact A.o10 _ 1 k rfl
        · rw [A.o10 _ 1 k (good_tuple (by rw [List.length_append, List.length_map]; show _ + 1 ≤ _; omega) fun x hx => by
            rcases List.mem_append.mp hx with h | h
            · exact gi x h
            · rw [List.mem_singleton.mp h]
              rfl), word_snoc w rfl]
        · exact A.o10 _ 0 k zero_good
      exact ⟨_, by simp [h3, ocV_ok c]; rfl, agr_put agr_wipe rfl⟩)
  rw [filt_none] at e1
  obtain ⟨T', rfl, h2, h11, h11n⟩ := A.o12
  have l2 : listD (eL ls) = some (.list (ls.map eM)) := rfl
  have q1 := ok12n (k := (k : Int)) (n := s) h2 (d := .list (ls.map eM)) rfl rfl
  have q2 : S0.up T' 12 [.none, .int 1, .int 1] = .ok (.bool false) [] := ok12n (k := 1) (n := 1) h2 (d := .none) rfl rfl
  simp [b29, e1, szOk, no_list0, h18, h4, h3, l2, ocV_ok q1, ocV_ok q2, -ev_itsU]
end
end Rf
end
section
set_option Elab.async false
set_option linter.all false
set_option maxRecDepth 100000
set_option maxHeartbeats 4000000
/-! S25: the law's turn as one, the five turns, the law's answer. -/
namespace Rf
open PySem PySem.Spec L2
theorem sq {a b : MS} {ρ ρ' : Env} (h : a ρ = .ok .nx ρ') : seqM a b ρ = b ρ' := by
  rw [ev_seq, h]
  rfl
/-- what the turn's first statements leave -/
structure St (ρ : Env) (k s : Nat) (near far one other : Q.Mx) (q : Rat) : Prop where
  f : Frm ρ
  h3 : ρ 3 = .im (.int (k : Nat))
  h4 : ρ 4 = .im (.int (s : Nat))
  h5 : ρ 5 = .im (.list (near.map eP))
  h6 : ρ 6 = .im (.list (far.map eP))
  h7 : ρ 7 = .im (eM one)
  h8 : ρ 8 = .im (eM other)
  h9 : ρ 9 = .im (eF q)
section
variable {T : Nat → Fn} {ρ : Env} {k s : Nat} {near far one other : Q.Mx} {q : Rat} {ts : List Tm} {ls ms : List Q.Mx} {t : D} {n : Nat}
theorem St.keep {ρ' : Env} (h : St ρ k s near far one other q) (f : Frm ρ') (e : ∀ j, 3 ≤ j → j ≤ 9 → ρ' j = ρ j) : St ρ' k s near far one other q where
  f := f
  h3 := by rw [e 3 (by omega) (by omega)]; exact h.h3
  h4 := by rw [e 4 (by omega) (by omega)]; exact h.h4
  h5 := by rw [e 5 (by omega) (by omega)]; exact h.h5
  h6 := by rw [e 6 (by omega) (by omega)]; exact h.h6
  h7 := by rw [e 7 (by omega) (by omega)]; exact h.h7
  h8 := by rw [e 8 (by omega) (by omega)]; exact h.h8
  h9 := by rw [e 9 (by omega) (by omega)]; exact h.h9
theorem St.put (h : St ρ k s near far one other q) {i : Nat} {d : D} (hi : 9 < i) : St (ρ.put i (.im d)) k s near far one other q := h.keep (fr_put h.f) fun j a b => put_ne (by omega)
theorem St.box (h : St ρ k s near far one other q) {x : Sl} : St (ρ.put 1 x) k s near far one other q := h.keep (fr_box h.f) fun j a b => put_ne (by omega)
abbrev segA (T : Nat → Fn) (z : MS) : MS := seqM (b1 T) (seqM (b2 T) (seqM (b3 T) (seqM (b4 T) (seqM (b5 T) (seqM (b6 T) z)))))
theorem segA_run (A : AllOk T) (h1 : ρ 1 = .mu t) (ht : Tin t n) (hn : n ≤ 500000) (f : Frm ρ) : ∃ (k s : Nat) (near far one other : Q.Mx) (q : Rat) (t' : D) (ρ' : Env), (∀ z, segA T z ρ = z ρ') ∧ St ρ' k s near far one other q ∧ Dr k near far one other q ∧ 1 ≤ s ∧ s ≤ 3 ∧ ρ' 1 = .mu t' ∧ Tin t' (n + 900) := by
  obtain ⟨k, s, t1, e1, k0, k1, s0, s1, T1⟩ := b1_run A h1 ht (by omega) f
  obtain ⟨r1, hr1⟩ : ∃ r, r = ((ρ.put 1 (.mu t1)).put 3 (.im (.int (k : Nat)))).put 4 (.im (.int (s : Nat))) := ⟨_, rfl⟩
  rw [← hr1] at e1
  have f1 : Frm r1 := by rw [hr1]; exact fr_put (fr_put (fr_box f))
  obtain ⟨near, far, t2, e2, ln, lf, pn, pf, T2⟩ := b2_run A (ρ := r1) (t := t1) (by simp [hr1]) T1 (by omega) f1 (by simp [hr1]) k0 k1
  obtain ⟨r2, hr2⟩ : ∃ r, r = ((r1.put 1 (.mu t2)).put 6 (.im (.list (far.map eP)))).put 5 (.im (.list (near.map eP))) := ⟨_, rfl⟩
  rw [← hr2] at e2
  have f2 : Frm r2 := by rw [hr2]; exact fr_put (fr_put (fr_box f1))
  obtain ⟨q, t3, e3, sq', T3⟩ := b3_run A (ρ := r2) (t := t2) (by simp [hr2]) T2 (by omega) f2 (by simp [hr2]) (by simp [hr2]) (mz_pr pn ln) (mz_pr pf lf)
  obtain ⟨r3, hr3⟩ : ∃ r, r = (((r2.put 1 (.mu t3)).put 7 (.im (eM (Q.canon near)))).put 8 (.im (eM (Q.canon far)))).put 9 (.im (eF q)) := ⟨_, rfl⟩
  rw [← hr3] at e3
  have f3 : Frm r3 := by rw [hr3]; exact fr_put (fr_put (fr_put (fr_box f2)))
  have st : St r3 k s near far (Q.canon near) (Q.canon far) q := ⟨f3, by simp [hr3, hr2, hr1], by simp [hr3, hr2, hr1], by simp [hr3, hr2], by simp [hr3, hr2], by simp [hr3], by simp [hr3], by simp [hr3]⟩
  have d : Dr k near far (Q.canon near) (Q.canon far) q := ⟨k0, k1, pn, pf, ln, lf, rfl, rfl, sq'⟩
  have e4 := b4_run A d st.f st.h5 st.h7 st.h8 st.h9
  have st4 := st.put (i := 10) (d := got1 (Q.canon near) (Q.canon far) q) (by omega)
  have e5 := b5_run A d st4.f st4.h7 st4.h8 st4.h9
  have st5 := st4.put (i := 11) (d := got1 (Q.canon near) (Q.canon far) q) (by omega)
  have e6 := b6_run (ρ := (r3.put 10 (.im (got1 (Q.canon near) (Q.canon far) q))).put 11 (.im (got1 (Q.canon near) (Q.canon far) q))) A d (by simp) (by simp)
  refine ⟨k, s, near, far, _, _, q, t3, _, fun z => ?_, st5, d, s0, s1, by simp [hr3], T3.mono (by omega)⟩
  exact (sq e1).trans ((sq e2).trans ((sq e3).trans ((sq e4).trans ((sq e5).trans (sq e6)))))
abbrev segB (T : Nat → Fn) (z : MS) : MS := seqM (b7 T) (seqM (b8 T) (seqM (b9 T) z))
theorem segB_run (A : AllOk T) (st : St ρ k s near far one other q) (d : Dr k near far one other q) (h1 : ρ 1 = .mu t) (ht : Tin t n) (hn : n ≤ 500000) : ∃ (t' : D) (ρ' : Env), (∀ z, segB T z ρ = z ρ') ∧ St ρ' k s near far one other q ∧ ρ' 1 = .mu t' ∧ Tin t' (n + 1) := by
  have hm : Mz 3 16 2 (one.take 2) := (d.m1.take 2).mono (by omega) (by omega) (by omega)
  obtain ⟨much, t1, e7, hk, T1⟩ := b7_run A (one.take 2) h1 ht (by omega) st.f
  obtain ⟨r1, hr1⟩ : ∃ r, r = ((ρ.put 1 (.mu t1)).put 15 (.im (.int (much : Nat)))).put 14 (.im (eM (pw (one.take 2) 0))) := ⟨_, rfl⟩
  rw [← hr1] at e7
  have st1 : St r1 k s near far one other q := by rw [hr1]; exact (st.box.put (by omega)).put (by omega)
  obtain ⟨r2, e8, r14, rj, f2⟩ := b8_run A (ρ := r1) hm hk st1.f st1.h7 (by simp [hr1]) (by simp [hr1])
  have st2 : St r2 k s near far one other q := st1.keep f2 fun j a b => rj j (by omega) (by omega)
  have e9 := b9_run A (ρ := r2) hm hk st2.h7 r14 (by rw [rj 15 (by omega) (by omega)]; simp [hr1])
  refine ⟨t1, r2, fun z => (sq e7).trans ((sq e8).trans (sq e9)), st2, ?_, T1⟩
  rw [rj 1 (by omega) (by omega)]
  simp [hr1]
abbrev segC (T : Nat → Fn) (z : MS) : MS := seqM (b10 T) (seqM (b11 T) (seqM (b12 T) (seqM (b13 T) (seqM (b14 T) (seqM (b15 T) (seqM (b16 T) (seqM (b17 T) (seqM (b18 T) (seqM (b19 T) (seqM (b20 T) (seqM (b21 T) z)))))))))))
theorem prs_mz (d : Dr k near far one other q) (e : prs ts = near ++ far) : Mz 3 2 9 (prs ts) ∧ ∀ p ∈ prs ts, InW k p.1 := by
  rw [e]
  exact ⟨(d.mn.app d.mf).mono (by omega) (by omega) (by omega), fun p hp => (List.mem_append.mp hp).elim (fun h => (d.pn p h).2.1) fun h => (d.pf p h).2.1⟩
theorem segC_run (A : AllOk T) (st : St ρ k s near far one other q) (r : Dr k near far one other q) (s0 : 1 ≤ s) (s1 : s ≤ 3) (h1 : ρ 1 = .mu t) (ht : Tin t n) (hn : n ≤ 500000) : ∃ (ts : List Tm) (ls ms : List Q.Mx) (t' : D) (ρ' : Env), (∀ z, segC T z ρ = z ρ') ∧ St ρ' k s near far one other q ∧ Sm3 k s ts ls ms ∧ ρ' 18 = .im (eL ls) ∧ ρ' 1 = .mu t' ∧ Tin t' (n + 1300) := by
  obtain ⟨ts, t1, e10, pe, gd, T1⟩ := b10_run A h1 ht (by omega) st.f st.h4 s0 s1 st.h5 st.h6 r.ln r.lf
  obtain ⟨mt, kt⟩ := prs_mz r pe
  obtain ⟨r1, hr1⟩ : ∃ r, r = (ρ.put 1 (.mu t1)).put 17 (.im (.list (ts.map eT))) := ⟨_, rfl⟩
  rw [← hr1] at e10
  have st1 : St r1 k s near far one other q := by rw [hr1]; exact st.box.put (by omega)
  have e11 := b11_run A (ρ := r1) st1.f st1.h4 s1 (by simp [hr1]) mt
  obtain ⟨r2, hr2⟩ : ∃ r, r = r1.put 18 (.im (eL (lnOf ts s))) := ⟨_, rfl⟩
  rw [← hr2] at e11
  have st2 : St r2 k s near far one other q := by rw [hr2]; exact st1.put (by omega)
  obtain ⟨ms, t3, e12, lm, mm, T3⟩ := b12_run A (ρ := r2) (t := t1) (by simp [hr2, hr1]) T1 (by omega) st2.f st2.h3 r.k0 r.k1 st2.h4 s1
  obtain ⟨r3, hr3⟩ : ∃ r, r = (r2.put 1 (.mu t3)).put 21 (.im (eL ms)) := ⟨_, rfl⟩
  rw [← hr3] at e12
  have st3 : St r3 k s near far one other q := by rw [hr3]; exact st2.box.put (by omega)
  have d : Sm3 k s ts (lnOf ts s) ms := ⟨s1, s0, mt, kt, gd, rfl, lm, mm⟩
  obtain ⟨ls, hls⟩ : ∃ l, l = lnOf ts s := ⟨_, rfl⟩
  rw [← hls] at d hr2
  have rl : (rowsOf ls).length ≤ 16777216 := Nat.le_trans d.rows (by omega)
  have g18 : r3 18 = .im (eL ls) := by simp [hr3, hr2]
  have g17 : r3 17 = .im (.list (ts.map eT)) := by simp [hr3, hr2, hr1]
  have g21 : r3 21 = .im (eL ms) := by simp [hr3]
  have g1 : r3 1 = .mu t3 := by simp [hr3]
  have e13 := b13_run A (ρ := r3) st3.f g18 rl
  obtain ⟨r4, hr4⟩ : ∃ r, r = r3.put 22 (.im (.list ((sortR (rowsOf ls)).map eR))) := ⟨_, rfl⟩
  rw [← hr4] at e13
  have st4 : St r4 k s near far one other q := by rw [hr4]; exact st3.put (by omega)
  have e14 := b14_run (T := T) (ρ := r4) st4.f (by simp [hr4]) rl
  obtain ⟨r5, hr5⟩ : ∃ r, r = r4.put 23 (.im (termsD ls)) := ⟨_, rfl⟩
  rw [← hr5] at e14
  have st5 : St r5 k s near far one other q := by rw [hr5]; exact st4.put (by omega)
  have e15 := b15_run A (ρ := r5) d r st5.f st5.h4 st5.h7 st5.h9 (by simp [hr5, hr4, g17]) (by simp [hr5, hr4, g18]) (by simp [hr5, hr4, g21])
  obtain ⟨r6, hr6⟩ : ∃ r, r = r5.put 10 (.im (got2 ls ms one q)) := ⟨_, rfl⟩
  rw [← hr6] at e15
  have st6 : St r6 k s near far one other q := by rw [hr6]; exact st5.put (by omega)
  have e16 := b16_run (T := T) (ρ := r6) st6.f
  obtain ⟨r7, hr7⟩ : ∃ r, r = r6.put 25 (.im (.list [])) := ⟨_, rfl⟩
  rw [← hr7] at e16
  have st7 : St r7 k s near far one other q := by rw [hr7]; exact st6.put (by omega)
  obtain ⟨r8, e17, g25, rj, f8⟩ := b17_run (T := T) (ρ := r7) d st7.f (by simp [hr7, hr6, hr5]) (by simp [hr7])
  have st8 : St r8 k s near far one other q := st7.keep f8 fun j a b => rj j (by omega) (by omega) (by omega) (by omega)
  have a23 : r8 23 = .im (termsD ls) := by rw [rj 23 (by omega) (by omega) (by omega) (by omega)]; simp [hr7, hr6, hr5]
  have a18 : r8 18 = .im (eL ls) := by rw [rj 18 (by omega) (by omega) (by omega) (by omega)]; simp [hr7, hr6, hr5, hr4, g18]
  have a21 : r8 21 = .im (eL ms) := by rw [rj 21 (by omega) (by omega) (by omega) (by omega)]; simp [hr7, hr6, hr5, hr4, g21]
  have a17 : r8 17 = .im (.list (ts.map eT)) := by rw [rj 17 (by omega) (by omega) (by omega) (by omega)]; simp [hr7, hr6, hr5, hr4, g17]
  have a10 : r8 10 = .im (got2 ls ms one q) := by rw [rj 10 (by omega) (by omega) (by omega) (by omega)]; simp [hr7, hr6]
  have a1 : r8 1 = .mu t3 := by rw [rj 1 (by omega) (by omega) (by omega) (by omega)]; simp [hr7, hr6, hr5, hr4, g1]
  have e18 := b18_run A (ρ := r8) d r st8.f st8.h7 st8.h9 a18 a21 a23 g25
  obtain ⟨r9, hr9⟩ : ∃ r, r = r8.put 11 (.im (got2 ls ms one q)) := ⟨_, rfl⟩
  rw [← hr9] at e18
  have st9 : St r9 k s near far one other q := by rw [hr9]; exact st8.put (by omega)
  have e19 := b19_run A (ρ := r9) d r (by simp [hr9, a10]) (by simp [hr9])
  have e20 := b20_run (T := T) (ρ := r9) (ts := ts) st9.f st9.h4 (by simp [hr9, a17]) (by have := d.tl; omega)
  obtain ⟨r10, hr10⟩ : ∃ r, r = r9.put 29 (.im (.list ((badOf ts s).map eT))) := ⟨_, rfl⟩
  rw [← hr10] at e20
  have st10 : St r10 k s near far one other q := by rw [hr10]; exact st9.put (by omega)
  have e21 := b21_run A (ρ := r10) d st10.h4 (by simp [hr10, hr9, a17]) (by simp [hr10])
  exact ⟨ts, ls, ms, t3, r10, fun z => (sq e10).trans ((sq e11).trans ((sq e12).trans ((sq e13).trans ((sq e14).trans ((sq e15).trans ((sq e16).trans ((sq e17).trans ((sq e18).trans ((sq e19).trans ((sq e20).trans (sq e21))))))))))), st10, d, by simp [hr10, hr9, a18], by simp [hr10, hr9, a1], T3.mono (by omega)⟩
abbrev segD (T : Nat → Fn) (z : MS) : MS := seqM (b22 T) (seqM (b23 T) (seqM (b24 T) (seqM (b25 T) (seqM (b26 T) (seqM (b27 T) (seqM (b28 T) (seqM (b29 T) z)))))))
theorem segD_run (A : AllOk T) (st : St ρ k s near far one other q) (r : Dr k near far one other q) (d : Sm3 k s ts ls ms) (h18 : ρ 18 = .im (eL ls)) (h1 : ρ 1 = .mu t) (ht : Tin t n) (hn : n ≤ 500000) : ∃ (t' : D) (ρ' : Env), (∀ z, segD T z ρ = z ρ') ∧ Frm ρ' ∧ ρ' 1 = .mu t' ∧ Tin t' (n + 24) := by
  have e22 := b22_run (T := T) d st.f h18
  obtain ⟨r1, hr1⟩ : ∃ r, r = ρ.put 31 (.im (eL (ls.map rawOf))) := ⟨_, rfl⟩
  rw [← hr1] at e22
  have st1 : St r1 k s near far one other q := by rw [hr1]; exact st.put (by omega)
  have e23 := b23_run A (ρ := r1) d st1.f (by simp [hr1])
  obtain ⟨r2, hr2⟩ : ∃ r, r = r1.put 31 (.im (eL (ls.map freeM))) := ⟨_, rfl⟩
  rw [← hr2] at e23
  have st2 : St r2 k s near far one other q := by rw [hr2]; exact st1.put (by omega)
  have g18 : r2 18 = .im (eL ls) := by simp [hr2, hr1, h18]
  have e24 := b24_run A (ρ := r2) d st2.f g18 (by simp [hr2])
  obtain ⟨w, e, t3, e25, lw, le, iw, T3⟩ := b25_run A (ρ := r2) (t := t) (by simp [hr2, hr1, h1]) ht (by omega) st2.f st2.h3 r.k0 r.k1
  obtain ⟨r3, hr3⟩ : ∃ r, r = ((r2.put 1 (.mu t3)).put 33 (.im (eW e))).put 12 (.im (eW w)) := ⟨_, rfl⟩
  rw [← hr3] at e25
  have st3 : St r3 k s near far one other q := by rw [hr3]; exact (st2.box.put (by omega)).put (by omega)
  obtain ⟨r4, e26, rj, f4⟩ := b26_run A (ρ := r3) (w := w) (e := e) st3.f (by simp [hr3]) (by simp [hr3]) lw le
  have st4 : St r4 k s near far one other q := st3.keep f4 fun j a b => rj j (by omega) (by omega)
  have a18 : r4 18 = .im (eL ls) := by rw [rj 18 (by omega) (by omega)]; simp [hr3, g18]
  have a12 : r4 12 = .im (eW w) := by rw [rj 12 (by omega) (by omega)]; simp [hr3]
  have a1 : r4 1 = .mu t3 := by rw [rj 1 (by omega) (by omega)]; simp [hr3]
  have e27 := b27_run A (ρ := r4) d r st4.f lw iw st4.h3 st4.h4 st4.h7 a12 a18
  obtain ⟨r5, hr5⟩ : ∃ r, r = r4.put 36 (.im goods) := ⟨_, rfl⟩
  rw [← hr5] at e27
  have st5 : St r5 k s near far one other q := by rw [hr5]; exact st4.put (by omega)
  have e28 := b28_run A (ρ := r5) (t := t3) d r st5.f (by simp [hr5, a1]) st5.h3 st5.h4 st5.h7 (by simp [hr5, a18]) (by simp [hr5])
  have e29 := b29_run A (ρ := r5) (k := k) (s := s) (ls := ls) st5.f lw (by have := d.len; have := d.s1; omega) st5.h3 st5.h4 (by simp [hr5, a12]) (by simp [hr5, a18])
  exact ⟨t3, r5, fun z => (sq e22).trans ((sq e23).trans ((sq e24).trans ((sq e25).trans ((sq e26).trans ((sq e27).trans ((sq e28).trans (sq e29))))))), st5.f, by simp [hr5, a1], T3⟩
theorem turn_run (A : AllOk T) (h1 : ρ 1 = .mu t) (ht : Tin t n) (hn : n ≤ 400000) (f : Frm ρ) : ∃ (t' : D) (ρ' : Env), turnB T ρ = .ok .nx ρ' ∧ ρ' 1 = .mu t' ∧ Tin t' (n + 3000) ∧ Frm ρ' := by
  obtain ⟨k, s, near, far, one, other, q, t1, r1, e1, st1, d, s0, s1, g1, T1⟩ := segA_run A h1 ht (by omega) f
  obtain ⟨t2, r2, e2, st2, g2, T2⟩ := segB_run A st1 d g1 T1 (by omega)
  obtain ⟨ts, ls, ms, t3, r3, e3, st3, sm, h18, g3, T3⟩ := segC_run A st2 d s0 s1 g2 T2 (by omega)
  obtain ⟨t4, r4, e4, f4, g4, T4⟩ := segD_run A st3 d sm h18 g3 T3 (by omega)
  refine ⟨t4, r4, ?_, g4, T4.mono (by omega), f4⟩
  exact (e1 _).trans ((e2 _).trans ((e3 _).trans ((e4 _).trans rfl)))
end
theorem ok48 {T : Nat → Fn} (A : AllOk T) (ns : List Int) (hl : ns.length ≤ 63) (hz : ∀ z ∈ ns, z.natAbs < 2 ^ 1048577) : S0.up T 48 [.list (ns.map .int)] = .ok (.bool true) [] := by
  rw [u48]
  refine fn_ret ?_
  obtain ⟨c, c32, hc⟩ := A.o32 ns hl hz
  obtain ⟨t, c30, tt⟩ := A.o30 c hc
  obtain ⟨r0, hr0⟩ : ∃ r, r = entE [Md.bo] [.list (ns.map .int)] := ⟨_, rfl⟩
  have h0 : r0 0 = .bo (.list (ns.map .int)) := by rw [hr0]; rfl
  have f0 : Frm r0 := fun j _ => by
    rw [hr0]
    cases j <;> rfl
  have e0 : bx0 T r0 = .ok .nx (r0.put 1 (.mu t)) := by
    have se : sees r0 0 = true := sees_of h0 (by simp)
    have n1 : notIo (r0 1) = true := by rw [hr0]; rfl
    simp [bx0, se, h0, ocV_ok c32, ocV_ok c30, n1]
  obtain ⟨r', e1, t', g, _, _⟩ := for_run (src := overM rng1D (consM (M.pure (PyData.int 5)) nilM)) (p := .nm 2) (b := turnB T) (List.range 5) (fun i => PyData.int (i : Nat))
    (fun ws ρ' => ∃ t', ρ' 1 = .mu t' ∧ Tin t' (ws.length * 3000) ∧ Frm ρ') (ρ := r0.put 1 (.mu t)) (ρ0 := r0.put 1 (.mu t)) (by
      have := rng_nat 5 (by omega)
      have : rng1D [.int 5] = some ((List.range 5).map fun i => PyData.int (i : Nat)) := this
      simp only [ev_over, ev_cons, ev_nil, ev_pure, ob_ok, this]
      rfl) ⟨t, rfl, tt.mono (by omega), fr_box f0⟩ (fun ws x us ρ1 e ⟨t1, g1, T1, f1⟩ => by
      have wl : ws.length < 5 := by
        have a := congrArg List.length e
        rw [List.length_range, List.length_append, List.length_cons] at a
        omega
      obtain ⟨t2, r2, e2, g2, T2, f2⟩ := turn_run A (ρ := ρ1.put 2 (.im (.int (x : Nat)))) (t := t1) (by simp [g1]) T1 (by omega) (fr_put f1)
      exact ⟨_, r2, by simp [f1.n 2 (by omega)], e2, t2, g2, T2.mono (by rw [List.length_append]; show _ ≤ (ws.length + 1) * 3000; omega), f2⟩)
  have all : f48 T r0 = .ok (.rt (.bool true)) r' := by
    rw [f48_eq]
    refine (sq e0).trans ((sq e1).trans ?_)
    simp
  rw [← hr0, all]
  rfl
end Rf
end
section
set_option Elab.async false
set_option linter.all false
set_option maxRecDepth 100000
set_option maxHeartbeats 4000000
/-! S26: the law. -/
namespace Rf
open PySem PySem.Spec L2
theorem bits_abs {z : Int} (h : Builtin.Int.intBits z ≤ 1048576) : z.natAbs < 2 ^ 1048577 := by
  unfold Builtin.Int.intBits at h
  split at h
  · rename_i e
    have : z = 0 := by simpa using e
    subst this
    exact Nat.pow_pos (by omega)
  · have a : z.natAbs < 2 ^ (z.natAbs.log2 + 1) := Nat.lt_log2_self
    exact Nat.lt_of_lt_of_le a (Nat.pow_le_pow_right (by omega) (by omega))
theorem pure0 : Pure0 13 := fun ns hl hz => by
  rw [show S0.tab 13 = S0.up (S0.tab 12) from tab_up 12]
  exact ok48 all_ok ns hl fun z hm => bits_abs (hz z hm)
end Rf
open Rf in
theorem k00_holds : Lw.Holds := holds_of (kk := 13) ⟨rfl, by decide +kernel, by decide +kernel⟩ pure0
end
theorem PySem.Challenge.cw_ruledsums_k00_words_mixes_sums_by_own_re_holds : PySem.Challenge.rw_ruledsums_k00_words_mixes_sums_by_own_re.Holds := by
  exact k00_holds
