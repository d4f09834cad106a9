import PyProof.Rows.All
import Wide.All
import OpenK.AllK
import Wide.FinOn
import HandS.ForMost
import HandS.ForExc
import HandS.IsInst
import HandS.TupAny
import HandS.TupLe
import HandS.Conv
import KE.GoesEnum
import PyProof.SumWalkG
import HandS.TupMul
import HandS.Zip
import HandS.Deep
import KE.SortData
import KE.KTreeR
import HandS.Style
import HandS.TryMany
import HandS.ExcOwn
import PyProof.ExcBaseAll.ValueError
import KE.KRevSl
import HandS.Flow
import HandS.Dict
import HandS.WordsDict
import HandS.More
import KE.DataCmp
import KE.DataMinMax
import PySem.Challenge.RW_stretchrests_k38_whole_two_numbers_toget
set_option Elab.async false
set_option linter.all false
set_option maxRecDepth 100000
set_option autoImplicit false
section
namespace Z
open PySem PySem.Spec PyProof.Rows L2

/-! ### plain data -/
inductive P where
  | non | bl (b : Bool) | int (i : Int) | str (x : Str) | tup (xs : List P) | lst (xs : List P) | fz (ns : List Int)
  | dct (kvs : List (Key × P)) | dcT (kvs : List (List Key × P))

/-- what a name holds: plain data, or a changing thing of the frame -/
inductive Val where
  | p (x : P) | ref (i : Nat)
/-- a changing thing -/
inductive O where
  | gone | pl (xs : List P) | rl (ks : List Nat) | pd (kvs : List (Key × P)) | pdT (kvs : List (List Key × P))

abbrev Dom := Addr → Prop
abbrev Rho := List (Option Addr)
def Bd (F : Dom) (ρ : Rho) : Dom := fun b => F b ∨ some b ∈ ρ

/-- the script -/
def FzAt (K : PySem.W.Frag) (H : Hp) (B : Dom) (a : Addr) (ns : List Int) : Prop :=
  (∃ o, H a = some (.frz o (.lst (ns.map V.int))) ∧ ¬ B a) ∨
    ∃ (o : Obj) (its : Array Value) (n : Nat), K.lookup a = some o ∧ o.cls = .type "list" ∧ o.dict = none ∧ o.data = .seq its n ∧ its.size ≤ sizeLine ∧ Vals (ns.map V.int) its.toList

mutual
inductive Rep (K : PySem.W.Frag) (H : Hp) (B : Dom) : P → V → Prop
  | non : Rep K H B .non .non
  | bl (b : Bool) : Rep K H B (.bl b) (.bl b)
  | int (i : Int) : Rep K H B (.int i) (.int i)
  | str (x : Str) : Rep K H B (.str x) (.str x)
  | tup {a : Addr} {vs : List V} {xs : List P} : H a = some (.tup vs) → ¬ B a → RepL K H B xs vs → Rep K H B (.tup xs) (.ref a)
  | lst {a : Addr} {vs : List V} {xs : List P} : H a = some (.lst vs) → ¬ B a → RepL K H B xs vs → Rep K H B (.lst xs) (.ref a)
  | fz {a : Addr} {ns : List Int} : FzAt K H B a ns → Rep K H B (.fz ns) (.ref a)
  | dct {a : Addr} {vs : List (Key × V)} {xs : List (Key × P)} : Rd H a (.dK vs) → ¬ B a → RepD K H B xs vs → Rep K H B (.dct xs) (.ref a)
  | dcT {a : Addr} {vs : List (List Key × V)} {xs : List (List Key × P)} : Rd H a (.dT vs) → ¬ B a → RepT K H B xs vs → Rep K H B (.dcT xs) (.ref a)
inductive RepL (K : PySem.W.Frag) (H : Hp) (B : Dom) : List P → List V → Prop
  | nil : RepL K H B [] []
  | cons {x : P} {v : V} {xs : List P} {vs : List V} : Rep K H B x v → RepL K H B xs vs → RepL K H B (x :: xs) (v :: vs)
inductive RepD (K : PySem.W.Frag) (H : Hp) (B : Dom) : List (Key × P) → List (Key × V) → Prop
  | nil : RepD K H B [] []
  | cons {k : Key} {x : P} {v : V} {xs : List (Key × P)} {vs : List (Key × V)} : Rep K H B x v → RepD K H B xs vs → RepD K H B ((k, x) :: xs) ((k, v) :: vs)
inductive RepT (K : PySem.W.Frag) (H : Hp) (B : Dom) : List (List Key × P) → List (List Key × V) → Prop
  | nil : RepT K H B [] []
  | cons {k : List Key} {x : P} {v : V} {xs : List (List Key × P)} {vs : List (List Key × V)} : Rep K H B x v → RepT K H B xs vs → RepT K H B ((k, x) :: xs) ((k, v) :: vs)
end

section
variable {K : PySem.W.Frag} {H H' : Hp} {B B' : Dom}
theorem FzAt.mono {a : Addr} {ns : List Int} (hk : ∀ b o, H b = some o → ¬ B b → H' b = some o) (hb : ∀ b, B' b → B b ∨ H b = none) (h : FzAt K H B a ns) : FzAt K H' B' a ns := by
  rcases h with ⟨o, e, n⟩ | h
  · refine .inl ⟨o, hk _ _ e n, fun q => ?_⟩
    rcases hb _ q with z | z
    · exact n z
    · rw [e] at z; cases z
  · exact .inr h
theorem Rd.mono' {a : Addr} {u : HO} (hk : ∀ b o, H b = some o → ¬ B b → H' b = some o) (e : Rd H a u) (n : ¬ B a) : Rd H' a u := by
  rcases e with e | ⟨o, e⟩
  · exact .inl (hk _ _ e n)
  · exact .inr ⟨o, hk _ _ e n⟩
theorem Rd.nn {a : Addr} {u : HO} (e : Rd H a u) (z : H a = none) : False := by
  rcases e with e | ⟨o, e⟩ <;> rw [e] at z <;> cases z
mutual
theorem Rep.mono (hk : ∀ b o, H b = some o → ¬ B b → H' b = some o) (hb : ∀ b, B' b → B b ∨ H b = none) : ∀ {x : P} {v : V}, Rep K H B x v → Rep K H' B' x v
  | _, _, .non => .non
  | _, _, .bl b => .bl b
  | _, _, .int i => .int i
  | _, _, .str x => .str x
  | _, _, .tup e n r => .tup (hk _ _ e n) (fun q => (hb _ q).elim n fun z => by rw [e] at z; cases z) (RepL.mono hk hb r)
  | _, _, .lst e n r => .lst (hk _ _ e n) (fun q => (hb _ q).elim n fun z => by rw [e] at z; cases z) (RepL.mono hk hb r)
  | _, _, .fz h => .fz (h.mono hk hb)
  | _, _, .dct e n r => .dct (Rd.mono' hk e n) (fun q => (hb _ q).elim n fun z => Rd.nn e z) (RepD.mono hk hb r)
  | _, _, .dcT e n r => .dcT (Rd.mono' hk e n) (fun q => (hb _ q).elim n fun z => Rd.nn e z) (RepT.mono hk hb r)
theorem RepL.mono (hk : ∀ b o, H b = some o → ¬ B b → H' b = some o) (hb : ∀ b, B' b → B b ∨ H b = none) : ∀ {x : List P} {v : List V}, RepL K H B x v → RepL K H' B' x v
  | _, _, .nil => .nil
  | _, _, .cons h t => .cons (Rep.mono hk hb h) (RepL.mono hk hb t)
theorem RepD.mono (hk : ∀ b o, H b = some o → ¬ B b → H' b = some o) (hb : ∀ b, B' b → B b ∨ H b = none) : ∀ {x : List (Key × P)} {v : List (Key × V)}, RepD K H B x v → RepD K H' B' x v
  | _, _, .nil => .nil
  | _, _, .cons h t => .cons (Rep.mono hk hb h) (RepD.mono hk hb t)
theorem RepT.mono (hk : ∀ b o, H b = some o → ¬ B b → H' b = some o) (hb : ∀ b, B' b → B b ∨ H b = none) : ∀ {x : List (List Key × P)} {v : List (List Key × V)}, RepT K H B x v → RepT K H' B' x v
  | _, _, .nil => .nil
  | _, _, .cons h t => .cons (Rep.mono hk hb h) (RepT.mono hk hb t)
end
theorem RepL.length : ∀ {xs : List P} {vs : List V}, RepL K H B xs vs → xs.length = vs.length
  | _, _, .nil => rfl
  | _, _, .cons _ t => by rw [List.length_cons, List.length_cons, RepL.length t]
theorem RepL.get : ∀ {xs : List P} {vs : List V} {i : Nat} {v : V}, RepL K H B xs vs → vs[i]? = some v → ∃ x, xs[i]? = some x ∧ Rep K H B x v
  | _, _, _, _, .nil, e => by simp at e
  | _, _, 0, _, .cons h _, e => by simp at e; subst e; exact ⟨_, rfl, h⟩
  | _, _, i + 1, _, .cons _ t, e => by
    obtain ⟨x, h1, h2⟩ := RepL.get (i := i) t (by simpa using e)
    exact ⟨x, by simpa using h1, h2⟩
theorem RepL.get' : ∀ {xs : List P} {vs : List V} {i : Nat} {x : P}, RepL K H B xs vs → xs[i]? = some x → ∃ v, vs[i]? = some v ∧ Rep K H B x v
  | _, _, _, _, .nil, e => by simp at e
  | _, _, 0, _, .cons h _, e => by simp at e; subst e; exact ⟨_, rfl, h⟩
  | _, _, i + 1, _, .cons _ t, e => by
    obtain ⟨x, h1, h2⟩ := RepL.get' (i := i) t (by simpa using e)
    exact ⟨x, by simpa using h1, h2⟩
theorem RepL.append : ∀ {xs ys : List P} {vs ws : List V}, RepL K H B xs vs → RepL K H B ys ws → RepL K H B (xs ++ ys) (vs ++ ws)
  | _, _, _, _, .nil, s => s
  | _, _, _, _, .cons h t, s => .cons h (RepL.append t s)
theorem RepL.take : ∀ {xs : List P} {vs : List V} (n : Nat), RepL K H B xs vs → RepL K H B (xs.take n) (vs.take n)
  | _, _, 0, _ => .nil
  | _, _, _ + 1, .nil => .nil
  | _, _, n + 1, .cons h t => .cons h (RepL.take n t)
theorem RepL.drop : ∀ {xs : List P} {vs : List V} (n : Nat), RepL K H B xs vs → RepL K H B (xs.drop n) (vs.drop n)
  | _, _, 0, h => h
  | _, _, _ + 1, .nil => .nil
  | _, _, n + 1, .cons _ t => RepL.drop n t
theorem RepL.set : ∀ {xs : List P} {vs : List V} {x : P} {v : V} (n : Nat), RepL K H B xs vs → Rep K H B x v → RepL K H B (xs.set n x) (vs.set n v)
  | _, _, _, _, _, .nil, _ => .nil
  | _, _, _, _, 0, .cons _ t, h => .cons h t
  | _, _, _, _, n + 1, .cons h t, q => .cons h (RepL.set n t q)
theorem RepL.eraseIdx : ∀ {xs : List P} {vs : List V} (n : Nat), RepL K H B xs vs → RepL K H B (xs.eraseIdx n) (vs.eraseIdx n)
  | _, _, _, .nil => .nil
  | _, _, 0, .cons _ t => t
  | _, _, n + 1, .cons h t => .cons h (RepL.eraseIdx n t)
theorem RepL.ints : ∀ {ns : List Int} {vs : List V}, RepL K H B (ns.map P.int) vs → vs = ns.map V.int
  | [], _, .nil => rfl
  | n :: ns, _, .cons h t => by
    cases h
    rw [RepL.ints t]; rfl
theorem RepL.bls : ∀ {ns : List Bool} {vs : List V}, RepL K H B (ns.map P.bl) vs → vs = ns.map V.bl
  | [], _, .nil => rfl
  | n :: ns, _, .cons h t => by
    cases h
    rw [RepL.bls t]; rfl
theorem RepL.strs : ∀ {ns : List Str} {vs : List V}, RepL K H B (ns.map P.str) vs → vs = ns.map V.str
  | [], _, .nil => rfl
  | n :: ns, _, .cons h t => by
    cases h
    rw [RepL.strs t]; rfl
theorem RepL.ofInts : ∀ (ns : List Int), RepL K H B (ns.map P.int) (ns.map V.int)
  | [] => .nil
  | n :: ns => .cons (.int n) (RepL.ofInts ns)
end

/-! ### names and things of a frame -/
abbrev Env := List (Option Val)
/-- a thing's plain content -/
@[simp] def O.pure : O → Option P
  | .pl xs => some (.lst xs)
  | .pd kvs => some (.dct kvs)
  | .pdT kvs => some (.dcT kvs)
  | _ => none
@[simp] def deref (S : List O) : Val → Option P
  | .p x => some x
  | .ref i => (S[i]?).bind O.pure

def RV (K : PySem.W.Frag) (H : Hp) (F : Dom) (ρ : Rho) : Val → V → Prop
  | .p x, v => Rep K H (Bd F ρ) x v
  | .ref i, v => i < ρ.length ∧ ∀ a, ρ[i]? = some (some a) → v = .ref a
inductive RVs (K : PySem.W.Frag) (H : Hp) (F : Dom) (ρ : Rho) : List Val → List V → Prop
  | nil : RVs K H F ρ [] []
  | cons {x : Val} {v : V} {xs : List Val} {vs : List V} : RV K H F ρ x v → RVs K H F ρ xs vs → RVs K H F ρ (x :: xs) (v :: vs)
def RO (K : PySem.W.Frag) (H : Hp) (F : Dom) (ρ : Rho) : O → Addr → Prop
  | .gone, _ => False
  | .pl xs, a => ∃ vs, H a = some (.lst vs) ∧ RepL K H (Bd F ρ) xs vs
  | .rl ks, a => ∃ vs, H a = some (.lst vs) ∧ RVs K H F ρ (ks.map Val.ref) vs
  | .pd xs, a => ∃ vs, H a = some (.dK vs) ∧ RepD K H (Bd F ρ) xs vs
  | .pdT xs, a => ∃ vs, H a = some (.dT vs) ∧ RepT K H (Bd F ρ) xs vs
structure Rl (K : PySem.W.Frag) (H : Hp) (F : Dom) (ρ : Rho) (S : List O) : Prop where
  len : ρ.length = S.length
  nd : ∀ (i j : Nat) (a : Addr), ρ[i]? = some (some a) → ρ[j]? = some (some a) → i = j
  al : ∀ b, Bd F ρ b → H b ≠ none
  ds : ∀ (i : Nat) (a : Addr), ρ[i]? = some (some a) → ¬ F a
  ob : ∀ (i : Nat) (a : Addr) (o : O), ρ[i]? = some (some a) → S[i]? = some o → RO K H F ρ o a
  go : ∀ (i : Nat) (o : O), S[i]? = some o → o ≠ .gone → ∃ a, ρ[i]? = some (some a)
structure RE (K : PySem.W.Frag) (H : Hp) (F : Dom) (ρ : Rho) (env : Env) (σ : L2.St) : Prop where
  len : env.length = σ.length
  get : ∀ (i : Nat) (d : Val), env[i]? = some (some d) → ∃ v, σ[i]? = some (some v) ∧ RV K H F ρ d v
structure Xt (H : Hp) (ρ : Rho) (H' : Hp) (ρ' : Rho) : Prop where
  keep : ∀ b o, H b = some o → some b ∉ ρ → H' b = some o
  stay : ∀ b, H b ≠ none → H' b ≠ none
  len : ρ.length ≤ ρ'.length
  old : ∀ (i : Nat) (a : Addr), ρ'[i]? = some (some a) → ρ[i]? = some (some a) ∨ (ρ.length ≤ i ∧ H a = none)

section
variable {K : PySem.W.Frag} {H H1 H' H'' : Hp} {F : Dom} {ρ ρ' ρ'' : Rho} {S S' : List O} {env : Env} {σ : L2.St}
theorem mem_rho {a : Addr} : some a ∈ ρ ↔ ∃ i : Nat, ρ[i]? = some (some a) := by
  rw [List.mem_iff_getElem?]
theorem Xt.refl : Xt H ρ H ρ := ⟨fun _ _ e _ => e, fun _ h => h, Nat.le_refl _, fun _ _ h => .inl h⟩
theorem Xt.out (x : Xt H ρ H' ρ') {b : Addr} {o : HO} (e : H b = some o) (n : some b ∉ ρ) : some b ∉ ρ' := fun q => by
  obtain ⟨i, hi⟩ := mem_rho.mp q
  rcases x.old i b hi with z | ⟨_, z⟩
  · exact n (mem_rho.mpr ⟨i, z⟩)
  · rw [e] at z; cases z
theorem Xt.trans (x : Xt H ρ H' ρ') (y : Xt H' ρ' H'' ρ'') : Xt H ρ H'' ρ'' := by
  refine ⟨fun b o e n => y.keep b o (x.keep b o e n) (x.out e n), fun b h => y.stay b (x.stay b h), Nat.le_trans x.len y.len, fun i a h => ?_⟩
  rcases y.old i a h with z | ⟨l, z⟩
  · exact x.old i a z
  · refine .inr ⟨Nat.le_trans x.len l, ?_⟩
    cases q : H a with
    | none => rfl
    | some o => exact absurd z (x.stay a (by rw [q]; simp))
theorem Xt.hk (x : Xt H ρ H' ρ') : ∀ b o, H b = some o → ¬ Bd F ρ b → H' b = some o := fun b o e n => x.keep b o e fun q => n (.inr q)
theorem Xt.hb (x : Xt H ρ H' ρ') : ∀ b, Bd F ρ' b → Bd F ρ b ∨ H b = none := fun b q => by
  rcases q with q | q
  · exact .inl (.inl q)
  · obtain ⟨i, hi⟩ := mem_rho.mp q
    rcases x.old i b hi with z | ⟨_, z⟩
    · exact .inl (.inr (mem_rho.mpr ⟨i, z⟩))
    · exact .inr z
theorem Rep.xt (x : Xt H ρ H' ρ') {d : P} {v : V} (h : Rep K H (Bd F ρ) d v) : Rep K H' (Bd F ρ') d v := h.mono x.hk x.hb
theorem RepL.xt (x : Xt H ρ H' ρ') {d : List P} {v : List V} (h : RepL K H (Bd F ρ) d v) : RepL K H' (Bd F ρ') d v := h.mono x.hk x.hb
theorem RepD.xt (x : Xt H ρ H' ρ') {d : List (Key × P)} {v : List (Key × V)} (h : RepD K H (Bd F ρ) d v) : RepD K H' (Bd F ρ') d v := h.mono x.hk x.hb
theorem RepT.xt (x : Xt H ρ H' ρ') {d : List (List Key × P)} {v : List (List Key × V)} (h : RepT K H (Bd F ρ) d v) : RepT K H' (Bd F ρ') d v := h.mono x.hk x.hb
theorem RV.xt (x : Xt H ρ H' ρ') : ∀ {d : Val} {v : V}, RV K H F ρ d v → RV K H' F ρ' d v
  | .p _, _, h => Rep.xt x h
  | .ref i, v, h => ⟨Nat.lt_of_lt_of_le h.1 x.len, fun a e => by
    rcases x.old i a e with z | ⟨l, _⟩
    · exact h.2 a z
    · exact absurd (Nat.lt_of_lt_of_le h.1 l) (Nat.lt_irrefl _)⟩
theorem RVs.xt (x : Xt H ρ H' ρ') : ∀ {ds : List Val} {vs : List V}, RVs K H F ρ ds vs → RVs K H' F ρ' ds vs
  | _, _, .nil => .nil
  | _, _, .cons h t => .cons (h.xt x) (RVs.xt x t)
theorem RE.xt (x : Xt H ρ H' ρ') (h : RE K H F ρ env σ) : RE K H' F ρ' env σ := ⟨h.len, fun i d e => by
  obtain ⟨v, h1, h2⟩ := h.get i d e
  exact ⟨v, h1, h2.xt x⟩⟩
theorem RVs.length : ∀ {xs : List Val} {vs : List V}, RVs K H F ρ xs vs → xs.length = vs.length
  | _, _, .nil => rfl
  | _, _, .cons _ t => by rw [List.length_cons, List.length_cons, RVs.length t]
theorem RVs.append : ∀ {xs ys : List Val} {vs ws : List V}, RVs K H F ρ xs vs → RVs K H F ρ ys ws → RVs K H F ρ (xs ++ ys) (vs ++ ws)
  | _, _, _, _, .nil, s => s
  | _, _, _, _, .cons h t, s => .cons h (RVs.append t s)
theorem RVs.get' : ∀ {xs : List Val} {vs : List V} {i : Nat} {x : Val}, RVs K H F ρ xs vs → xs[i]? = some x → ∃ v, vs[i]? = some v ∧ RV K H F ρ x v
  | _, _, _, _, .nil, e => by simp at e
  | _, _, 0, _, .cons h _, e => by simp at e; subst e; exact ⟨_, rfl, h⟩
  | _, _, i + 1, _, .cons _ t, e => by
    obtain ⟨x, h1, h2⟩ := RVs.get' (i := i) t (by simpa using e)
    exact ⟨x, by simpa using h1, h2⟩
/-- the heap has grown, no thing of the frame was touched -/
theorem Xt.grow (h : Same H H') : Xt H ρ H' ρ := ⟨fun b o e _ => h b o e, fun b n => by
  cases q : H b with
  | none => exact absurd q n
  | some o => rw [h b o q]; simp, Nat.le_refl _, fun _ _ e => .inl e⟩
theorem RO.xt (x : Xt H ρ H' ρ') {o : O} {a : Addr} (e : ∀ u, H a = some u → H' a = some u) (h : RO K H F ρ o a) : RO K H' F ρ' o a := by
  cases o with
  | gone => exact h
  | pl xs => obtain ⟨vs, h1, h2⟩ := h; exact ⟨vs, e _ h1, h2.xt x⟩
  | rl ks => obtain ⟨vs, h1, h2⟩ := h; exact ⟨vs, e _ h1, h2.xt x⟩
  | pd xs => obtain ⟨vs, h1, h2⟩ := h; exact ⟨vs, e _ h1, h2.xt x⟩
  | pdT xs => obtain ⟨vs, h1, h2⟩ := h; exact ⟨vs, e _ h1, h2.xt x⟩
theorem Rl.grow (r : Rl K H F ρ S) (h : Same H H') : Rl K H' F ρ S :=
  ⟨r.len, r.nd, fun b q => (Xt.grow (ρ := ρ) h).stay b (r.al b q), r.ds, fun i a o h1 h2 => (r.ob i a o h1 h2).xt (Xt.grow h) (fun u e => h a u e), r.go⟩
end
end Z

end
section
namespace Z
open PySem L2

/-! ### what runs give -/
inductive Rs (α : Type) where
  | ok (a : α) | exc (c : Str)
abbrev Out (α : Type) := Option (Rs α × List O)
abbrev M (α : Type) := List O → Out α
abbrev EM := Env → M Val
abbrev TM := Env → M Bool
abbrev IM := Env → M (List P)
def bnd {α β : Type} (m : Out α) (f : α → M β) : Out β :=
  match m with
  | some (.ok a, S) => f a S
  | some (.exc c, S) => some (.exc c, S)
  | none => none
@[simp] theorem bnd_ok {α β : Type} (a : α) (S : List O) (f : α → M β) : bnd (some (.ok a, S)) f = f a S := rfl
@[simp] theorem bnd_exc {α β : Type} (c : Str) (S : List O) (f : α → M β) : bnd (some (.exc c, S)) f = some (.exc c, S) := rfl
@[simp] theorem bnd_none {α β : Type} (f : α → M β) : bnd none f = none := rfl
@[simp] def ret1 (x : P) : M Val := fun S => some (.ok (.p x), S)
@[simp] def retO (x : Option P) : M Val := fun S => x.bind fun y => some (.ok (.p y), S)

/-! ### expressions -/
@[simp] def mVar (i : Nat) : EM := fun env S => match env[i]? with
  | some (some d) => some (.ok d, S)
  | _ => none
/-- the last look at a name that holds a thing: from here on it is plain data -/
@[simp] def mMv (i : Nat) : EM := fun env S => match env[i]? with
  | some (some (.ref j)) => ((S[j]?).bind O.pure).bind fun x => some (.ok (.p x), S.set j .gone)
  | _ => none
@[simp] def mC (x : P) : EM := fun _ S => some (.ok (.p x), S)
@[simp] def mP1 (g : P → Option P) (a : EM) : EM := fun env S => bnd (a env S) fun v S1 => (deref S1 v).bind fun p => retO (g p) S1
@[simp] def mP2 (g : P → P → Option P) (a b : EM) : EM := fun env S => bnd (a env S) fun v S1 => bnd (b env S1) fun u S2 =>
  (deref S2 v).bind fun p => (deref S2 u).bind fun q => retO (g p q) S2
@[simp] def evs : List EM → Env → M (List Val)
  | [], _, S => some (.ok [], S)
  | m :: ms, env, S => bnd (m env S) fun v S1 => bnd (evs ms env S1) fun vs S2 => some (.ok (v :: vs), S2)
@[simp] def derefs (S : List O) : List Val → Option (List P)
  | [] => some []
  | v :: vs => (deref S v).bind fun p => (derefs S vs).bind fun ps => some (p :: ps)
@[simp] def mPn (g : List P → Option P) (ms : List EM) : EM := fun env S => bnd (evs ms env S) fun vs S1 => (derefs S1 vs).bind fun ps => retO (g ps) S1
@[simp] def Val.pur : Val → Option P
  | .p x => some x
  | .ref _ => none
@[simp] def purs : List Val → Option (List P)
  | [] => some []
  | v :: vs => (Val.pur v).bind fun p => (purs vs).bind fun ps => some (p :: ps)
@[simp] def mTup (ms : List EM) : EM := fun env S => bnd (evs ms env S) fun vs S1 => (purs vs).bind fun ps => ret1 (.tup ps) S1
@[simp] def mLst (ms : List EM) : EM := fun env S => bnd (evs ms env S) fun vs S1 => (purs vs).bind fun ps => ret1 (.lst ps) S1
/-- a list that will be changed -/
@[simp] def mNewL (ms : List EM) : EM := fun env S => bnd (evs ms env S) fun vs S1 => (purs vs).bind fun ps => some (.ok (.ref S1.length), S1 ++ [.pl ps])
/-- a list of things -/
@[simp] def refs : List Val → Option (List Nat)
  | [] => some []
  | .ref i :: vs => (refs vs).bind fun ps => some (i :: ps)
  | .p _ :: _ => none
@[simp] def mNewR (ms : List EM) : EM := fun env S => bnd (evs ms env S) fun vs S1 => (refs vs).bind fun ks => some (.ok (.ref S1.length), S1 ++ [.rl ks])
@[simp] def mNewD : EM := fun _ S => some (.ok (.ref S.length), S ++ [.pd []])
@[simp] def mNewT : EM := fun _ S => some (.ok (.ref S.length), S ++ [.pdT []])
/-- plain data just made becomes a thing -/
@[simp] def mAnd (a b : EM) : EM := fun env S => bnd (a env S) fun v S1 => match v with
  | .p (.bl true) => b env S1
  | .p (.bl false) => some (.ok (.p (.bl false)), S1)
  | _ => none
@[simp] def mOr (a b : EM) : EM := fun env S => bnd (a env S) fun v S1 => match v with
  | .p (.bl true) => some (.ok (.p (.bl true)), S1)
  | .p (.bl false) => b env S1
  | _ => none
@[simp] def mNot (a : EM) : EM := fun env S => bnd (a env S) fun v S1 => match v with
  | .p (.bl b) => some (.ok (.p (.bl (!b))), S1)
  | _ => none
@[simp] def mIf (t : TM) (a b : EM) : EM := fun env S => bnd (t env S) fun c S1 => if c = true then a env S1 else b env S1

/-! ### tests -/
@[simp] def truthP : P → Option Bool
  | .non => some false
  | .bl b => some b
  | .int i => some (i != 0)
  | .str x => if x.length ≤ sizeLine then some ((x.length : Int) != 0) else none
  | .tup xs => some (!xs.isEmpty)
  | .lst xs => some (!xs.isEmpty)
  | .fz ns => some (!ns.isEmpty)
  | .dct _ => none
  | .dcT _ => none
@[simp] def tB (m : EM) : TM := fun env S => bnd (m env S) fun v S1 => match v with
  | .p (.bl b) => some (.ok b, S1)
  | _ => none
@[simp] def O.truth : O → Option Bool
  | .pl xs => some (!xs.isEmpty)
  | .rl ks => some (!ks.isEmpty)
  | .pd kvs => some (!kvs.isEmpty)
  | _ => none
@[simp] def truthV (S : List O) : Val → Option Bool
  | .p x => truthP x
  | .ref i => (S[i]?).bind O.truth
@[simp] def tTr (m : EM) : TM := fun env S => bnd (m env S) fun v S1 => (truthV S1 v).bind fun b => some (.ok b, S1)
@[simp] def tAndM (a b : TM) : TM := fun env S => bnd (a env S) fun c S1 => if c = true then b env S1 else some (.ok false, S1)
@[simp] def tOrM (a b : TM) : TM := fun env S => bnd (a env S) fun c S1 => if c = true then some (.ok true, S1) else b env S1
@[simp] def tNotM (a : TM) : TM := fun env S => bnd (a env S) fun c S1 => some (.ok (!c), S1)

/-! ### defs -/
abbrev Fn := List Val → M Val
def O.closed : O → Bool
  | .pl _ => true
  | .pd _ => true
  | .pdT _ => true
  | _ => false
@[simp] theorem closed_pl (xs : List P) : (O.pl xs).closed = true := rfl
@[simp] theorem closed_pd (xs : List (Key × P)) : (O.pd xs).closed = true := rfl
@[simp] theorem closed_pdT (xs : List (List Key × P)) : (O.pdT xs).closed = true := rfl
@[simp] theorem closed_rl (xs : List Nat) : (O.rl xs).closed = false := rfl
@[simp] theorem closed_gone : O.gone.closed = false := rfl
@[simp] def refsOf : List Val → List Nat
  | [] => []
  | .ref i :: vs => i :: refsOf vs
  | .p _ :: vs => refsOf vs
@[simp] def renum : Nat → List Val → List Val
  | _, [] => []
  | k, .ref _ :: vs => .ref k :: renum (k + 1) vs
  | k, .p x :: vs => .p x :: renum k vs
@[simp] def gets (S : List O) : List Nat → Option (List O)
  | [] => some []
  | i :: is => (S[i]?).bind fun o => if o.closed = true then (gets S is).bind fun os => some (o :: os) else none
@[simp] def puts (S : List O) : List Nat → List O → List O
  | i :: is, o :: os => puts (S.set i o) is os
  | _, _ => S
@[simp] def nodupB : List Nat → Bool
  | [] => true
  | i :: is => !is.contains i && nodupB is
@[simp] def callV (f : Fn) (vs : List Val) : M Val := fun S =>
  if nodupB (refsOf vs) = true then
    (gets S (refsOf vs)).bind fun os => match f (renum 0 vs) os with
      | some (.ok (.p x), os') => some (.ok (.p x), puts S (refsOf vs) os')
      | some (.exc c, os') => some (.exc c, puts S (refsOf vs) os')
      | _ => none
  else none
@[simp] def mCall (f : Fn) (ms : List EM) : EM := fun env S => bnd (evs ms env S) fun vs S1 => callV f vs S1

/-- a number of no great size -/
def smB (j : Int) : Bool := decide (-1000000 ≤ j ∧ j ≤ 1000000)
theorem smB_bd {j : Int} (h : smB j = true) : -(2 ^ 62) ≤ j ∧ j < 2 ^ 62 := by
  have := of_decide_eq_true h
  omega
@[simp] theorem smB_lit {j : Int} (h : -1000000 ≤ j) (h2 : j ≤ 1000000) : smB j = true := decide_eq_true ⟨h, h2⟩
theorem smB_nat {n : Nat} (h : n ≤ 1000000) : smB (n : Int) = true := decide_eq_true ⟨by omega, by omega⟩

/-! ### things changed -/
@[simp] def lstAt (S : List O) (i : Nat) : Bool := match S[i]? with
  | some (.pl _) => true
  | some (.rl _) => true
  | _ => false
@[simp] def appV (i : Nat) (u : Val) : M Val := fun S => match u, S[i]? with
  | .p x, some (.pl xs) => if xs.length < sizeLine then some (.ok (.p .non), S.set i (.pl (xs ++ [x]))) else none
  | .ref j, some (.rl ks) => if ks.length < sizeLine then some (.ok (.p .non), S.set i (.rl (ks ++ [j]))) else none
  | _, _ => none
@[simp] def extV (i : Nat) (u : Val) : M Val := fun S => match u, S[i]? with
  | .p (.lst ys), some (.pl xs) => if xs.length + ys.length ≤ sizeLine then some (.ok (.p .non), S.set i (.pl (xs ++ ys))) else none
  | _, _ => none
@[simp] def popV (i : Nat) (u : Val) : M Val := fun S => match u, S[i]? with
  | .p (.int k), some (.pl xs) => if 0 ≤ k ∧ smB k = true then (xs[k.toNat]?).bind fun x => some (.ok (.p x), S.set i (.pl (xs.eraseIdx k.toNat))) else none
  | _, _ => none
@[simp] def mMeth (f : Nat → Val → M Val) (o e : EM) : EM := fun env S => bnd (o env S) fun v S1 => match v with
  | .ref i => if lstAt S1 i = true then bnd (e env S1) fun u S2 => f i u S2 else none
  | .p _ => none
@[simp] def mPop0 (o : EM) : EM := fun env S => bnd (o env S) fun v S1 => match v with
  | .ref i => match S1[i]? with
    | some (.pl xs) => (xs[xs.length - 1]?).bind fun x => some (.ok (.p x), S1.set i (.pl xs.dropLast))
    | _ => none
  | .p _ => none

/-! ### statements -/
inductive Fl where
  | nx (e : Env) | rt (v : Val) | bk (e : Env) | ct (e : Env) | ex (c : Str) (e : Env)
abbrev SM := Env → List O → Option (Fl × List O)
def stm {α : Type} (env : Env) (m : Out α) (f : α → List O → Option (Fl × List O)) : Option (Fl × List O) :=
  match m with
  | some (.ok a, S) => f a S
  | some (.exc c, S) => some (.ex c env, S)
  | none => none
@[simp] theorem stm_ok {α : Type} (env : Env) (a : α) (S : List O) (f : α → List O → Option (Fl × List O)) : stm env (some (.ok a, S)) f = f a S := rfl
@[simp] theorem stm_exc {α : Type} (env : Env) (c : Str) (S : List O) (f : α → List O → Option (Fl × List O)) : stm env (some (.exc c, S)) f = some (.ex c env, S) := rfl
@[simp] theorem stm_none {α : Type} (env : Env) (f : α → List O → Option (Fl × List O)) : stm env none f = none := rfl
@[simp] def sPass : SM := fun env S => some (.nx env, S)
@[simp] def sSeq (a b : SM) : SM := fun env S => match a env S with
  | some (.nx e, S1) => b e S1
  | r => r
@[simp] def sSet (i : Nat) (m : EM) : SM := fun env S => stm env (m env S) fun v S1 => some (.nx (env.set i (some v)), S1)
@[simp] def sExpr (m : EM) : SM := fun env S => stm env (m env S) fun _ S1 => some (.nx env, S1)
@[simp] def sRet (m : EM) : SM := fun env S => stm env (m env S) fun v S1 => some (.rt v, S1)
@[simp] def sIf (t : TM) (a b : SM) : SM := fun env S => stm env (t env S) fun c S1 => if c = true then a env S1 else b env S1
@[simp] def sBrk : SM := fun env S => some (.bk env, S)
@[simp] def sCont : SM := fun env S => some (.ct env, S)
@[simp] def sRaise (c : Str) : SM := fun env S => some (.ex c env, S)
/-- targets -/
inductive Tg where
  | nm (i : Nat) | tp (ts : List Tg)
mutual
@[simp] def asg : Tg → P → Env → Option Env
  | .nm i, x, env => some (env.set i (some (.p x)))
  | .tp ts, .tup xs, env => asgs ts xs env
  | .tp ts, .lst xs, env => asgs ts xs env
  | .tp _, _, _ => none
@[simp] def asgs : List Tg → List P → Env → Option Env
  | [], [], env => some env
  | t :: ts, x :: xs, env => (asg t x env).bind fun e => asgs ts xs e
  | _, _, _ => none
end
@[simp] def sAsg (t : Tg) (m : EM) : SM := fun env S => stm env (m env S) fun v S1 => (Val.pur v).bind fun x => (asg t x env).bind fun e => some (.nx e, S1)
/-- a, b = x, y -/
@[simp] def sPar2 (i j : Nat) (a b : EM) : SM := fun env S => stm env (a env S) fun v S1 => stm env (b env S1) fun u S2 => some (.nx ((env.set i (some v)).set j (some u)), S2)
/-- o[i] = e -/
@[simp] def mSub (o i e : EM) : SM := fun env S => stm env (e env S) fun u S1 => stm env (o env S1) fun v S2 => stm env (i env S2) fun k S3 => match v, k, u with
  | .ref r, .p (.int n), .p x => match S3[r]? with
    | some (.pl xs) => (ixN xs.length n).bind fun j => some (.nx env, S3.set r (.pl (xs.set j x)))
    | _ => none
  | _, _, _ => none
@[simp] def keyOf : P → Option Key
  | .int i => some (.inl i)
  | .str x => some (.inr x)
  | _ => none
def putP (kvs : List (Key × P)) (k : Key) (v : P) : List (Key × P) :=
  if (kvs.any fun kv => decide (kv.1 = k)) = true then kvs.map fun kv => if kv.1 = k then (kv.1, v) else kv else kvs ++ [(k, v)]
def valP (kvs : List (Key × P)) (k : Key) : Option P := (kvs.find? fun kv => decide (kv.1 = k)).map (·.2)
/-- d[k] = e -/
@[simp] def mPut (o i e : EM) : SM := fun env S => stm env (e env S) fun u S1 => stm env (o env S1) fun v S2 => stm env (i env S2) fun k S3 => match v, k, u with
  | .ref r, .p kp, .p x => match S3[r]? with
    | some (.pd kvs) => (keyOf kp).bind fun k => if kvs.length < sizeLine then some (.nx env, S3.set r (.pd (putP kvs k x))) else none
    | _ => none
  | _, _, _ => none
@[simp] def clr (is : List Nat) (env : Env) : Env := is.foldl (fun e i => e.set i none) env
def forL (t : Tg) (b : SM) (cl : List Nat) : List P → Env → List O → Option (Fl × List O)
  | [], env, S => some (.nx env, S)
  | x :: xs, env, S => (asg t x env).bind fun e => match b e S with
    | some (.nx e', S') => forL t b cl xs (clr cl e') S'
    | some (.ct e', S') => forL t b cl xs (clr cl e') S'
    | some (.bk e', S') => some (.nx e', S')
    | r => r
@[simp] def sFor (t : Tg) (it : IM) (b : SM) (cl : List Nat) : SM := fun env S => stm env (it env S) fun xs S1 => forL t b cl xs env S1
def whL (t : TM) (b : SM) (cl : List Nat) : Nat → Env → List O → Option (Fl × List O)
  | 0, _, _ => none
  | n + 1, env, S => stm env (t env S) fun c S1 => if c = true then
      match b env S1 with
      | some (.nx e', S') => whL t b cl n (clr cl e') S'
      | some (.ct e', S') => whL t b cl n (clr cl e') S'
      | some (.bk e', S') => some (.nx e', S')
      | r => r
    else some (.nx env, S1)
@[simp] def sWhile (n : Nat) (t : TM) (b : SM) (cl : List Nat) : SM := whL t b cl n

/-! ### what a for walks -/
def rngL (lo : Int) (n : Nat) : List P := (List.range n).map fun i => P.int (lo + (i : Nat))
def seqP : P → Option (List P)
  | .tup xs => some xs
  | .lst xs => some xs
  | .fz ns => some (ns.map P.int)
  | _ => none
@[simp] theorem seqP_t (xs : List P) : seqP (.tup xs) = some xs := rfl
@[simp] theorem seqP_l (xs : List P) : seqP (.lst xs) = some xs := rfl
@[simp] theorem seqP_f (xs : List Int) : seqP (.fz xs) = some (xs.map P.int) := rfl
@[simp] def iSeq (m : EM) : IM := fun env S => bnd (m env S) fun v S1 => (Val.pur v).bind fun x => (seqP x).bind fun xs => some (.ok xs, S1)
@[simp] def iRange1 (m : EM) : IM := fun env S => bnd (m env S) fun v S1 => match v with
  | .p (.int j) => if smB j = true then some (.ok (rngL 0 j.toNat), S1) else none
  | _ => none
@[simp] def iRange2 (a b : EM) : IM := fun env S => bnd (a env S) fun v S1 => bnd (b env S1) fun u S2 => match v, u with
  | .p (.int i), .p (.int j) => if smB i = true ∧ smB j = true then some (.ok (rngL i (j - i).toNat), S2) else none
  | _, _ => none
@[simp] def enumL : Nat → List P → List P
  | _, [] => []
  | k, x :: xs => .tup [.int (k : Int), x] :: enumL (k + 1) xs
def seqQ : P → Option (List P)
  | .tup xs => some xs
  | .lst xs => some xs
  | _ => none
@[simp] theorem seqQ_t (xs : List P) : seqQ (.tup xs) = some xs := rfl
@[simp] theorem seqQ_l (xs : List P) : seqQ (.lst xs) = some xs := rfl
@[simp] def iEnumM (m : EM) : IM := fun env S => bnd (m env S) fun v S1 => (Val.pur v).bind fun x => (seqQ x).bind fun xs => some (.ok (enumL 0 xs), S1)
@[simp] def zipL : List P → List P → List P
  | x :: xs, y :: ys => .tup [x, y] :: zipL xs ys
  | _, _ => []

/-! ### comprehensions -/
/-- one block: the target, the test, the element; the names of the block are forgotten behind it -/
def lcL (t : Tg) (c : TM) (e : EM) (env : Env) : List P → List P → List O → Out Val
  | [], acc, S => some (.ok (.p (.lst acc)), S)
  | x :: xs, acc, S => (asg t x env).bind fun en => match c en S with
    | some (.ok true, S1) => match e en S1 with
      | some (.ok (.p y), S2) => if acc.length < sizeLine then lcL t c e env xs (acc ++ [y]) S2 else none
      | _ => none
    | some (.ok false, S1) => lcL t c e env xs acc S1
    | _ => none
@[simp] def tYesM : TM := fun _ S => some (.ok true, S)
@[simp] def mLc (own : List Nat) (t : Tg) (it : IM) (c : TM) (e : EM) : EM := fun env S => bnd (it env S) fun xs S1 => lcL t c e (clr own env) xs [] S1

/-! ### a def's own run -/
@[simp] def closeO : List O → Bool
  | [] => true
  | o :: os => o.closed && closeO os
@[simp] def finish (k : Nat) (v : Val) (S : List O) : Out Val :=
  if closeO (S.take k) = true then
    match v with
    | .p x => some (.ok (.p x), S.take k)
    | .ref i => if k ≤ i then ((S[i]?).bind O.pure).bind fun x => some (.ok (.p x), S.take k) else none
  else none
def runF (n : Nat) (b : SM) : Fn := fun vs S =>
  match b (vs.map some ++ List.replicate (n - vs.length) none) S with
  | some (.rt v, S1) => finish S.length v S1
  | some (.nx _, S1) => finish S.length (.p .non) S1
  | some (.ex c _, S1) => if closeO (S1.take S.length) = true then some (.exc c, S1.take S.length) else none
  | _ => none
end Z

end
section
namespace Z
open PySem PySem.Spec PyProof.Rows L2

/-! ### judgements may be weakened -/
section
variable {X : Cx}
theorem PE.imp {e : Expr} {t t' : TE} (h : PE X e t) (i : ∀ σ H Q, t' σ H Q → t σ H Q) : PE X e t' := ⟨fun pins s σ H Q I q => h.run pins s σ H Q I (i σ H Q q)⟩
theorem PT.imp {e : Expr} {t t' : TT} (h : PT X e t) (i : ∀ σ H Q, t' σ H Q → t σ H Q) : PT X e t' := ⟨fun pins s σ H Q I q => h.run pins s σ H Q I (i σ H Q q)⟩
theorem PW.imp {e : Expr} {t t' : TT} (h : PW X e t) (i : ∀ σ H Q, t' σ H Q → t σ H Q) : PW X e t' := ⟨fun wh pins s σ H Q I q => h.run wh pins s σ H Q I (i σ H Q q)⟩
theorem PTs.imp {e : List Expr} {t t' : TT} (h : PTs X e t) (i : ∀ σ H Q, t' σ H Q → t σ H Q) : PTs X e t' := ⟨fun pins s σ H Q I q => h.run pins s σ H Q I (i σ H Q q)⟩
theorem PC.imp {op : CmpOp} {a b : Expr} {t t' : TE} (h : PC X op a b t) (i : ∀ σ H Q, t' σ H Q → t σ H Q) : PC X op a b t' := ⟨fun pins s σ H Q I q => h.run pins s σ H Q I (i σ H Q q)⟩
theorem PA.imp {e : List Expr} {t t' : TA} (h : PA X e t) (i : ∀ σ H Q, t' σ H Q → t σ H Q) : PA X e t' := ⟨fun pos pins s σ H Q I q => h.run pos pins s σ H Q I (i σ H Q q)⟩
theorem PS.imp {e : Stmt} {t t' : TS} (h : PS X e t) (i : ∀ D σ H, t' D σ H → t D σ H) : PS X e t' := ⟨fun pins s σ H D I q => h.run pins s σ H D I (i D σ H q)⟩
theorem PSs.imp {e : List Stmt} {t t' : TS} (h : PSs X e t) (i : ∀ D σ H, t' D σ H → t D σ H) : PSs X e t' := ⟨fun pins s σ H D I q => h.run pins s σ H D I (i D σ H q)⟩
theorem PG.imp {e : Expr} {t t' : TG} (h : PG X e t) (i : ∀ v σ H Q, t' v σ H Q → t v σ H Q) : PG X e t' := ⟨fun pins s σ H v u Q I r q => h.run pins s σ H v u Q I r (i v σ H Q q)⟩
theorem PG.or {e : Expr} {t t' : TG} (h : PG X e t) (h' : PG X e t') : PG X e (fun v σ H Q => t v σ H Q ∨ t' v σ H Q) := ⟨fun pins s σ H v u Q I r q => q.elim (h.run pins s σ H v u Q I r) (h'.run pins s σ H v u Q I r)⟩
theorem PGs.imp {e : List Expr} {t t' : TGs} (h : PGs X e t) (i : ∀ v σ H Q, t' v σ H Q → t v σ H Q) : PGs X e t' := ⟨fun pins s σ H v u Q I r q => h.run pins s σ H v u Q I r (i v σ H Q q)⟩
theorem PI.imp {tg e : Expr} {t t' : TI} (h : PI X tg e t) (i : ∀ σ H R, t' σ H R → t σ H R) : PI X tg e t' := ⟨fun pins s σ H R I q => h.run pins s σ H R I (i σ H R q)⟩
theorem PI.or {tg e : Expr} {t t' : TI} (h : PI X tg e t) (h' : PI X tg e t') : PI X tg e (fun σ H R => t σ H R ∨ t' σ H R) := ⟨fun pins s σ H R I q => q.elim (h.run pins s σ H R I) (h'.run pins s σ H R I)⟩
theorem PE.or {e : Expr} {t t' : TE} (h : PE X e t) (h' : PE X e t') : PE X e (fun σ H Q => t σ H Q ∨ t' σ H Q) := ⟨fun pins s σ H Q I q => q.elim (h.run pins s σ H Q I) (h'.run pins s σ H Q I)⟩
theorem PC.or {op : CmpOp} {a b : Expr} {t t' : TE} (h : PC X op a b t) (h' : PC X op a b t') : PC X op a b (fun σ H Q => t σ H Q ∨ t' σ H Q) := ⟨fun pins s σ H Q I q => q.elim (h.run pins s σ H Q I) (h'.run pins s σ H Q I)⟩
theorem PS.or {e : Stmt} {t t' : TS} (h : PS X e t) (h' : PS X e t') : PS X e (fun D σ H => t D σ H ∨ t' D σ H) := ⟨fun pins s σ H D I q => q.elim (h.run pins s σ H D I) (h'.run pins s σ H D I)⟩
theorem OpR.imp {f : Value → Value → Sem Value} {r r' : R2} (h : OpR X f r) (i : ∀ x y H Q, r' x y H Q → r x y H Q) : OpR X f r' := fun pins s σ H x y v u Q I rx ry q => h pins s σ H x y v u Q I rx ry (i x y H Q q)
theorem UnR.imp {f : Value → Sem Value} {r r' : V → Hp → VK → Prop} (h : UnR X f r) (i : ∀ x H Q, r' x H Q → r x H Q) : UnR X f r' := fun pins s σ H x v Q I rx q => h pins s σ H x v Q I rx (i x H Q q)
theorem CallR.imp {f : Value} {r r' : List V → Hp → VK → Prop} (h : CallR X f r) (i : ∀ x H Q, r' x H Q → r x H Q) : CallR X f r' := fun pins s σ H x v Q I rx q => h pins s σ H x v Q I rx (i x H Q q)
theorem IxR.imp {r r' : R2} (h : IxR X r) (i : ∀ x y H Q, r' x y H Q → r x y H Q) : IxR X r' := fun a b pins s σ H x y v u Q I rx ry q => h a b pins s σ H x y v u Q I rx ry (i x y H Q q)
theorem SlR.imp {r r' : V → Option Int → Option Int → Hp → VK → Prop} (h : SlR X r) (i : ∀ x l u H Q, r' x l u H Q → r x l u H Q) : SlR X r' := fun pins s σ H x v vl vu lo hi sl Q I rx hs pl pu q => h pins s σ H x v vl vu lo hi sl Q I rx hs pl pu (i x lo hi H Q q)
end

/-! ### answers -/
def Ans {α : Type} (r : Out α) (ok : α → List O → Prop) (ex : Str → List O → Prop) : Prop :=
  match r with
  | some (.ok a, S) => ok a S
  | some (.exc c, S) => ex c S
  | none => False
theorem Ans.imp {α : Type} {r : Out α} {ok ok' : α → List O → Prop} {ex ex' : Str → List O → Prop} (h : Ans r ok ex) (i : ∀ a S, ok a S → ok' a S) (j : ∀ c S, ex c S → ex' c S) : Ans r ok' ex' := by
  match r, h with
  | some (.ok a, S), h => exact i a S h
  | some (.exc c, S), h => exact j c S h
theorem Ans.bnd {α β : Type} {r : Out α} {f : α → M β} {ok : β → List O → Prop} {ex : Str → List O → Prop} (h : Ans (bnd r f) ok ex) : Ans r (fun a S => Ans (f a S) ok ex) ex := by
  match r, h with
  | some (.ok a, S), h => exact h
  | some (.exc c, S), h => exact h
theorem Ans.opt {α β : Type} {r : Option α} {f : α → Out β} {ok : β → List O → Prop} {ex : Str → List O → Prop} (h : Ans (r.bind f) ok ex) : ∃ a, r = some a ∧ Ans (f a) ok ex := by
  match r, h with
  | some a, h => exact ⟨a, rfl, h⟩
def AnsS (r : Option (Fl × List O)) (nx : Env → List O → Prop) (rt : Val → List O → Prop) (bk ct : Env → List O → Prop) (ex : Str → Env → List O → Prop) : Prop :=
  match r with
  | some (.nx e, S) => nx e S
  | some (.rt v, S) => rt v S
  | some (.bk e, S) => bk e S
  | some (.ct e, S) => ct e S
  | some (.ex c e, S) => ex c e S
  | none => False
theorem AnsS.imp {r : Option (Fl × List O)} {nx nx' : Env → List O → Prop} {rt rt' : Val → List O → Prop} {bk bk' ct ct' : Env → List O → Prop} {ex ex' : Str → Env → List O → Prop}
    (h : AnsS r nx rt bk ct ex) (h1 : ∀ e S, nx e S → nx' e S) (h2 : ∀ e S, rt e S → rt' e S) (h3 : ∀ e S, bk e S → bk' e S) (h4 : ∀ e S, ct e S → ct' e S) (h5 : ∀ c e S, ex c e S → ex' c e S) : AnsS r nx' rt' bk' ct' ex' := by
  match r, h with
  | some (.nx e, S), h => exact h1 e S h
  | some (.rt e, S), h => exact h2 e S h
  | some (.bk e, S), h => exact h3 e S h
  | some (.ct e, S), h => exact h4 e S h
  | some (.ex c e, S), h => exact h5 c e S h
theorem AnsS.stm {α : Type} {env : Env} {m : Out α} {f : α → List O → Option (Fl × List O)} {nx : Env → List O → Prop} {rt : Val → List O → Prop} {bk ct : Env → List O → Prop} {ex : Str → Env → List O → Prop}
    (h : AnsS (stm env m f) nx rt bk ct ex) : Ans m (fun a S => AnsS (f a S) nx rt bk ct ex) (fun c S => ex c env S) := by
  match m, h with
  | some (.ok a, S), h => exact h
  | some (.exc c, S), h => exact h
theorem AnsS.opt {α : Type} {r : Option α} {f : α → Option (Fl × List O)} {nx : Env → List O → Prop} {rt : Val → List O → Prop} {bk ct : Env → List O → Prop} {ex : Str → Env → List O → Prop}
    (h : AnsS (r.bind f) nx rt bk ct ex) : ∃ a, r = some a ∧ AnsS (f a) nx rt bk ct ex := by
  match r, h with
  | some a, h => exact ⟨a, rfl, h⟩

/-! ### the readings -/
section
variable (K : PySem.W.Frag) (mg : Str → Option Value)
def KV1 (H : Hp) (F : Dom) (ρ : Rho) (Q : VK) : Val → List O → Prop := fun d S' => ∀ v H' ρ', Xt H ρ H' ρ' → Rl K H' F ρ' S' → RV K H' F ρ' d v → Q v H'
def KB1 (H : Hp) (F : Dom) (ρ : Rho) (Q : Bool → Hp → Prop) : Bool → List O → Prop := fun b S' => ∀ H' ρ', Xt H ρ H' ρ' → Rl K H' F ρ' S' → Q b H'
def KL1 (H : Hp) (F : Dom) (ρ : Rho) (Q : List V → Hp → Prop) : List Val → List O → Prop := fun ds S' => ∀ vs H' ρ', Xt H ρ H' ρ' → Rl K H' F ρ' S' → RVs K H' F ρ' ds vs → Q vs H'
def KX1 (H : Hp) (F : Dom) (ρ : Rho) (σ : L2.St) (W : WX) : Str → List O → Prop := fun c S' => ∀ C H' ρ', mg c = some (.ref C) → Xt H ρ H' ρ' → Rl K H' F ρ' S' → W (.ref C) none σ H'
def KE1 (H : Hp) (F : Dom) (ρ : Rho) (k : L2.St → Hp → Prop) : Env → List O → Prop := fun e S' => ∀ σ' H' ρ', Xt H ρ H' ρ' → Rl K H' F ρ' S' → RE K H' F ρ' e σ' → k σ' H'
def KXS (H : Hp) (F : Dom) (ρ : Rho) (W : WX) : Str → Env → List O → Prop := fun c e S' => ∀ C σ' H' ρ', mg c = some (.ref C) → Xt H ρ H' ρ' → Rl K H' F ρ' S' → RE K H' F ρ' e σ' → W (.ref C) none σ' H'
def TEx (W : WX) (m : EM) : TE := fun σ H Q => ∃ F ρ env S, Rl K H F ρ S ∧ RE K H F ρ env σ ∧ Ans (m env S) (KV1 K H F ρ Q) (KX1 K mg H F ρ σ W)
def TTx (W : WX) (m : TM) : TT := fun σ H Q => ∃ F ρ env S, Rl K H F ρ S ∧ RE K H F ρ env σ ∧ Ans (m env S) (KB1 K H F ρ Q) (KX1 K mg H F ρ σ W)
def TAx (W : WX) (ms : List EM) : TA := fun σ H Q => ∃ F ρ env S, Rl K H F ρ S ∧ RE K H F ρ env σ ∧ Ans (evs ms env S) (KL1 K H F ρ Q) (KX1 K mg H F ρ σ W)
def TSx (W : WX) (m : SM) : TS := fun D σ H => ∃ F ρ env S, Rl K H F ρ S ∧ RE K H F ρ env σ ∧ AnsS (m env S) (KE1 K H F ρ D.nx) (KV1 K H F ρ D.rt) (KE1 K H F ρ D.bk) (KE1 K H F ρ D.ct) (KXS K mg H F ρ W)
end
section
variable {K : PySem.W.Frag} {mg : Str → Option Value} {H H1 : Hp} {F : Dom} {ρ ρ1 : Rho} {σ : L2.St} {W : WX}
theorem KV1.xt {Q : VK} (x : Xt H ρ H1 ρ1) {d : Val} {S : List O} (h : KV1 K H F ρ Q d S) : KV1 K H1 F ρ1 Q d S := fun v H' ρ' x' r q => h v H' ρ' (x.trans x') r q
theorem KB1.xt {Q : Bool → Hp → Prop} (x : Xt H ρ H1 ρ1) {d : Bool} {S : List O} (h : KB1 K H F ρ Q d S) : KB1 K H1 F ρ1 Q d S := fun H' ρ' x' r => h H' ρ' (x.trans x') r
theorem KL1.xt {Q : List V → Hp → Prop} (x : Xt H ρ H1 ρ1) {d : List Val} {S : List O} (h : KL1 K H F ρ Q d S) : KL1 K H1 F ρ1 Q d S := fun v H' ρ' x' r q => h v H' ρ' (x.trans x') r q
theorem KX1.xt (x : Xt H ρ H1 ρ1) {d : Str} {S : List O} (h : KX1 K mg H F ρ σ W d S) : KX1 K mg H1 F ρ1 σ W d S := fun v H' ρ' e x' r => h v H' ρ' e (x.trans x') r
theorem KE1.xt {k : L2.St → Hp → Prop} (x : Xt H ρ H1 ρ1) {d : Env} {S : List O} (h : KE1 K H F ρ k d S) : KE1 K H1 F ρ1 k d S := fun v H' ρ' x' r q => h v H' ρ' (x.trans x') r q
theorem KXS.xt (x : Xt H ρ H1 ρ1) {c : Str} {d : Env} {S : List O} (h : KXS K mg H F ρ W c d S) : KXS K mg H1 F ρ1 W c d S := fun C v H' ρ' e x' r q => h C v H' ρ' e (x.trans x') r q
theorem AnsS.xt {r : Option (Fl × List O)} {D : Ends} (x : Xt H ρ H1 ρ1) (h : AnsS r (KE1 K H F ρ D.nx) (KV1 K H F ρ D.rt) (KE1 K H F ρ D.bk) (KE1 K H F ρ D.ct) (KXS K mg H F ρ W)) :
    AnsS r (KE1 K H1 F ρ1 D.nx) (KV1 K H1 F ρ1 D.rt) (KE1 K H1 F ρ1 D.bk) (KE1 K H1 F ρ1 D.ct) (KXS K mg H1 F ρ1 W) :=
  h.imp (fun _ _ q => q.xt x) (fun _ _ q => q.xt x) (fun _ _ q => q.xt x) (fun _ _ q => q.xt x) fun _ _ _ q => q.xt x
theorem KXS.one {c : Str} {env : Env} {S : List O} (he : RE K H F ρ env σ) (h : KXS K mg H F ρ W c env S) : KX1 K mg H F ρ σ W c S := fun C H' ρ' e x r => h C σ H' ρ' e x r (he.xt x)
end
abbrev DE (X : Cx) (W : WX) (e : Expr) (m : EM) : Prop := PE X e (TEx X.K X.mg W m)
abbrev DT (X : Cx) (W : WX) (e : Expr) (m : TM) : Prop := PT X e (TTx X.K X.mg W m)
abbrev DA (X : Cx) (W : WX) (es : List Expr) (ms : List EM) : Prop := PA X es (TAx X.K X.mg W ms)
abbrev DS (X : Cx) (W : WX) (st : Stmt) (m : SM) : Prop := PS X st (TSx X.K X.mg W m)
abbrev DSs (X : Cx) (W : WX) (st : List Stmt) (m : SM) : Prop := PSs X st (TSx X.K X.mg W m)

/-! ### names, constants -/
section
variable {X : Cx} {W : WX}
theorem de_var (i : Nat) {x : Str} {pos : Pos} (hN : X.N[i]? = some x := by rfl) (hv : Vis X.env.scope x := by first | exact Or.inl rfl | exact Or.inr (Or.inl rfl) | exact Or.inr (Or.inr rfl)) (hd : (x == ("__debug__" : Str)) = false := by decide)
    (hcd : (x == ("__classdict__" : Str)) = false := by decide) : DE X W (.Name x pos) (mVar i) := by
  refine PE.imp (pe_var hN hv hd hcd) fun σ H Q ⟨F, ρ, env, S, r, e, a⟩ => ?_
  unfold mVar at a
  split at a
  · rename_i d hd
    obtain ⟨v, h1, h2⟩ := e.get i d hd
    exact ⟨v, h1, a v H ρ Xt.refl r h2⟩
  · exact a.elim
theorem de_c {e : Expr} {v : V} {x : P} (h : PE X e (tC v)) (hx : ∀ K H B, Rep K H B x v) : DE X W e (mC x) :=
  PE.imp h fun σ H Q ⟨F, ρ, env, S, r, e, a⟩ => a v H ρ Xt.refl r (hx _ _ _)
theorem de_int {i : Int} {j : Nat} {pos : Pos} : DE X W (.Constant (.int i) j pos) (mC (.int i)) := de_c pe_int fun _ _ _ => .int i
theorem de_bl {b : Bool} {j : Nat} {pos : Pos} : DE X W (.Constant (.bool b) j pos) (mC (.bl b)) := de_c pe_bl fun _ _ _ => .bl b
theorem de_non {j : Nat} {pos : Pos} : DE X W (.Constant .none j pos) (mC .non) := de_c pe_non fun _ _ _ => .non
theorem de_str {x : Str} {j : Nat} {pos : Pos} : DE X W (.Constant (.str x) j pos) (mC (.str x)) := de_c pe_str fun _ _ _ => .str x
/-- a whole number of the module's -/
theorem de_globI {x : Str} {i : Int} {t : Tok} {pos : Pos} (hm : X.mg x = some (.int i t)) (hg : Gl X x := by rfl) (hd : (x == ("__debug__" : Str)) = false := by decide) : DE X W (.Name x pos) (mC (.int i)) :=
  de_c (v := .int i) (pe_glob hg hm ⟨_, rfl⟩ hd) fun _ _ _ => .int i
theorem de_globS {x : Str} {i : Str} {t : Tok} {pos : Pos} (hm : X.mg x = some (.str i t)) (hg : Gl X x := by rfl) (hd : (x == ("__debug__" : Str)) = false := by decide) : DE X W (.Name x pos) (mC (.str i)) :=
  de_c (v := .str i) (pe_glob hg hm ⟨_, rfl⟩ hd) fun _ _ _ => .str i
end

/-! ### arguments read by an operation -/
inductive RepA (K : PySem.W.Frag) (H : Hp) (B : Dom) : P → V → Prop
  | rep {x : P} {v : V} : Rep K H B x v → RepA K H B x v
  | lst {a : Addr} {vs : List V} {xs : List P} : H a = some (.lst vs) → RepL K H B xs vs → RepA K H B (.lst xs) (.ref a)
  | dct {a : Addr} {vs : List (Key × V)} {xs : List (Key × P)} : Rd H a (.dK vs) → RepD K H B xs vs → RepA K H B (.dct xs) (.ref a)
  | dcT {a : Addr} {vs : List (List Key × V)} {xs : List (List Key × P)} : Rd H a (.dT vs) → RepT K H B xs vs → RepA K H B (.dcT xs) (.ref a)
inductive RepAs (K : PySem.W.Frag) (H : Hp) (B : Dom) : List P → List V → Prop
  | nil : RepAs K H B [] []
  | cons {x : P} {v : V} {xs : List P} {vs : List V} : RepA K H B x v → RepAs K H B xs vs → RepAs K H B (x :: xs) (v :: vs)
section
variable {K : PySem.W.Frag} {H : Hp} {B : Dom}
theorem RepA.int {i : Int} {v : V} (h : RepA K H B (.int i) v) : v = .int i := by
  cases h with
  | rep h => cases h; rfl
theorem RepA.bl {i : Bool} {v : V} (h : RepA K H B (.bl i) v) : v = .bl i := by
  cases h with
  | rep h => cases h; rfl
theorem RepA.str {i : Str} {v : V} (h : RepA K H B (.str i) v) : v = .str i := by
  cases h with
  | rep h => cases h; rfl
theorem RepA.non {v : V} (h : RepA K H B .non v) : v = .non := by
  cases h with
  | rep h => cases h; rfl
theorem RepA.tup {xs : List P} {v : V} (h : RepA K H B (.tup xs) v) : ∃ a vs, v = .ref a ∧ H a = some (.tup vs) ∧ ¬ B a ∧ RepL K H B xs vs := by
  cases h with
  | rep h => cases h with
    | tup e n r => exact ⟨_, _, rfl, e, n, r⟩
theorem RepA.lstI {xs : List P} {v : V} (h : RepA K H B (.lst xs) v) : ∃ a vs, v = .ref a ∧ H a = some (.lst vs) ∧ RepL K H B xs vs := by
  cases h with
  | rep h => cases h with
    | lst e n r => exact ⟨_, _, rfl, e, r⟩
  | lst e r => exact ⟨_, _, rfl, e, r⟩
theorem RepA.dctI {xs : List (Key × P)} {v : V} (h : RepA K H B (.dct xs) v) : ∃ a vs, v = .ref a ∧ Rd H a (.dK vs) ∧ RepD K H B xs vs := by
  cases h with
  | rep h => cases h with
    | dct e n r => exact ⟨_, _, rfl, e, r⟩
  | dct e r => exact ⟨_, _, rfl, e, r⟩
theorem RepA.dcTI {xs : List (List Key × P)} {v : V} (h : RepA K H B (.dcT xs) v) : ∃ a vs, v = .ref a ∧ Rd H a (.dT vs) ∧ RepT K H B xs vs := by
  cases h with
  | rep h => cases h with
    | dcT e n r => exact ⟨_, _, rfl, e, r⟩
  | dcT e r => exact ⟨_, _, rfl, e, r⟩
theorem RepA.fz {ns : List Int} {v : V} (h : RepA K H B (.fz ns) v) : ∃ a, v = .ref a ∧ SqL K H a (ns.map V.int) := by
  cases h with
  | rep h => cases h with
    | fz h =>
      rcases h with ⟨o, e, _⟩ | h
      · exact ⟨_, rfl, .inl (.inr ⟨o, e⟩)⟩
      · exact ⟨_, rfl, .inr h⟩
theorem deref_rep {F : Dom} {ρ : Rho} {S : List O} {d : Val} {v : V} {p : P} (r : Rl K H F ρ S) (h : RV K H F ρ d v) (e : deref S d = some p) : RepA K H (Bd F ρ) p v := by
  cases d with
  | p x => cases e; exact .rep h
  | ref i =>
    have e : (S[i]?).bind O.pure = some p := e
    cases q : S[i]? with
    | none => rw [q] at e; cases e
    | some o =>
      rw [q] at e
      have e' : o.pure = some p := e
      have ng : o ≠ .gone := by rintro rfl; cases e'
      obtain ⟨a, ha⟩ := r.go i o q ng
      have hv := h.2 a ha
      subst hv
      have ob := r.ob i a o ha q
      cases o with
      | gone => cases e'
      | rl ks => cases e'
      | pl xs => cases e'; obtain ⟨vs, h1, h2⟩ := ob; exact .lst h1 h2
      | pd xs => cases e'; obtain ⟨vs, h1, h2⟩ := ob; exact .dct (.inl h1) h2
      | pdT xs => cases e'; obtain ⟨vs, h1, h2⟩ := ob; exact .dcT (.inl h1) h2
theorem derefs_rep {F : Dom} {ρ : Rho} {S : List O} (r : Rl K H F ρ S) : ∀ {ds : List Val} {vs : List V} {ps : List P}, RVs K H F ρ ds vs → derefs S ds = some ps → RepAs K H (Bd F ρ) ps vs
  | _, _, _, .nil, e => by cases e; exact .nil
  | _, _, _, .cons h t, e => by
    unfold derefs at e
    obtain ⟨p, e1, e⟩ := Option.bind_eq_some_iff.mp e
    obtain ⟨ps, e2, e⟩ := Option.bind_eq_some_iff.mp e
    cases e
    exact .cons (deref_rep r h e1) (derefs_rep r t e2)
theorem purs_rep {F : Dom} {ρ : Rho} : ∀ {ds : List Val} {vs : List V} {ps : List P}, RVs K H F ρ ds vs → purs ds = some ps → RepL K H (Bd F ρ) ps vs
  | _, _, _, .nil, e => by cases e; exact .nil
  | .p x :: _, _, _, .cons h t, e => by
    unfold purs at e
    obtain ⟨p, e1, e⟩ := Option.bind_eq_some_iff.mp e
    obtain ⟨ps, e2, e⟩ := Option.bind_eq_some_iff.mp e
    cases e
    cases e1
    exact .cons h (purs_rep t e2)
  | .ref i :: _, _, _, .cons h t, e => by
    unfold purs at e
    obtain ⟨p, e1, e⟩ := Option.bind_eq_some_iff.mp e
    cases e1
theorem evs_length : ∀ {ms : List EM} {env : Env} {S : List O} {ds : List Val} {S' : List O}, evs ms env S = some (.ok ds, S') → ds.length = ms.length
  | [], _, _, _, _, e => by cases e; rfl
  | m :: ms, env, S, ds, S', e => by
    unfold evs at e
    cases q : m env S with
    | none => rw [q] at e; cases e
    | some r =>
      obtain ⟨r, S1⟩ := r
      rw [q] at e
      cases r with
      | exc c => cases e
      | ok v =>
        have e' : bnd (evs ms env S1) (fun vs S2 => some (.ok (v :: vs), S2)) = some (.ok ds, S') := e
        cases q2 : evs ms env S1 with
        | none => rw [q2] at e'; cases e'
        | some r2 =>
          obtain ⟨r2, S2⟩ := r2
          rw [q2] at e'
          cases r2 with
          | exc c => cases e'
          | ok vs =>
            cases e'
            rw [List.length_cons, List.length_cons, evs_length q2]
end

/-! ### operations on plain data -/
def r1P (K : PySem.W.Frag) (g : P → Option P) : V → Hp → VK → Prop := fun x H Q => ∃ B p z, (∀ b, B b → H b ≠ none) ∧ RepA K H B p x ∧ g p = some z ∧ ∀ v H', Same H H' → Rep K H' B z v → Q v H'
def r2P (K : PySem.W.Frag) (g : P → P → Option P) : R2 := fun x y H Q => ∃ B p q z, (∀ b, B b → H b ≠ none) ∧ RepA K H B p x ∧ RepA K H B q y ∧ g p q = some z ∧ ∀ v H', Same H H' → Rep K H' B z v → Q v H'
def rnP (K : PySem.W.Frag) (g : List P → Option P) : List V → Hp → VK → Prop := fun xs H Q => ∃ B ps z, (∀ b, B b → H b ≠ none) ∧ RepAs K H B ps xs ∧ g ps = some z ∧ ∀ v H', Same H H' → Rep K H' B z v → Q v H'
section
variable {X : Cx} {W : WX}
theorem Same.rfl' {H : Hp} : Same H H := fun _ _ h => h
theorem fin_op {K : PySem.W.Frag} {H : Hp} {F : Dom} {ρ : Rho} {S : List O} {Q : VK} {z : P} (r : Rl K H F ρ S) (a : KV1 K H F ρ Q (.p z) S) : ∀ v H', Same H H' → Rep K H' (Bd F ρ) z v → Q v H' :=
  fun v H' s h => a v H' ρ (Xt.grow s) (r.grow s) h
theorem de_bin {op : Operator} {g : P → P → Option P} {a b : Expr} {ma mb : EM} {pos : Pos} (ho : OpR X (binaryOp op) (r2P X.K g)) (ha : DE X W a ma) (hb : DE X W b mb) : DE X W (.BinOp a op b pos) (mP2 g ma mb) := by
  refine PE.imp (pe_op ho ha hb) fun σ H Q ⟨F, ρ, env, S, r, e, h⟩ => ?_
  unfold mP2 at h
  refine ⟨F, ρ, env, S, r, e, h.bnd.imp (fun d S1 h1 v H1 ρ1 x1 r1 v1 => ?_) fun _ _ q => q⟩
  refine ⟨F, ρ1, env, S1, r1, e.xt x1, h1.bnd.imp (fun d2 S2 h2 v2 H2 ρ2 x2 r2 w2 => ?_) fun _ _ q => q.xt x1⟩
  obtain ⟨p, e1, h2⟩ := h2.opt
  obtain ⟨q, e2, h2⟩ := h2.opt
  obtain ⟨z, e3, h2⟩ := h2.opt
  exact ⟨Bd F ρ2, p, q, z, r2.al, deref_rep r2 (v1.xt x2) e1, deref_rep r2 w2 e2, e3, fin_op r2 (KV1.xt (x1.trans x2) h2)⟩
theorem pc_P {op : CmpOp} {g : P → P → Option P} {a b : Expr} {ma mb : EM} (ho : OpR X (compareOp op) (r2P X.K g)) (ha : DE X W a ma) (hb : DE X W b mb) : PC X op a b (TEx X.K X.mg W (mP2 g ma mb)) := by
  refine ⟨fun pins s σ H Q I h => ?_⟩
  have h' : tOp (r2P X.K g) (TEx X.K X.mg W ma) (TEx X.K X.mg W mb) σ H Q := by
    obtain ⟨F, ρ, env, S, r, e, h⟩ := h
    unfold mP2 at h
    refine ⟨F, ρ, env, S, r, e, h.bnd.imp (fun d S1 h1 v H1 ρ1 x1 r1 v1 => ?_) fun _ _ q => q⟩
    refine ⟨F, ρ1, env, S1, r1, e.xt x1, h1.bnd.imp (fun d2 S2 h2 v2 H2 ρ2 x2 r2 w2 => ?_) fun _ _ q => q.xt x1⟩
    obtain ⟨p, e1, h2⟩ := h2.opt
    obtain ⟨q, e2, h2⟩ := h2.opt
    obtain ⟨z, e3, h2⟩ := h2.opt
    exact ⟨Bd F ρ2, p, q, z, r2.al, deref_rep r2 (v1.xt x2) e1, deref_rep r2 w2 e2, e3, fin_op r2 (KV1.xt (x1.trans x2) h2)⟩
  exact binT ha hb I h' fun v u s2 x y H2 I2 rx ry q => ho pins s2 σ H2 x y v u Q I2 rx ry q
theorem tB_tx {K : PySem.W.Frag} {mg : Str → Option Value} {m : EM} {σ : L2.St} {H : Hp} {Q : Bool → Hp → Prop} (h : TTx K mg W (tB m) σ H Q) : TEx K mg W m σ H fun x H1 => ∃ c, x = .bl c ∧ Q c H1 := by
  obtain ⟨F, ρ, env, S, r, e, h⟩ := h
  unfold tB at h
  refine ⟨F, ρ, env, S, r, e, h.bnd.imp (fun d S1 h1 v H1 ρ1 x1 r1 v1 => ?_) fun _ _ q => q⟩
  match d, h1, v1 with
  | .p (.bl b), h1, v1 =>
    cases v1
    exact ⟨b, rfl, h1 H1 ρ1 x1 r1⟩
theorem de_cmp {op : CmpOp} {a b : Expr} {m : EM} {pos : Pos} (h : PC X op a b (TEx X.K X.mg W m)) (h1 : behindInMarks op b = false := by first | exact nobehind _ (by decide) (by decide) | rfl) : DE X W (.Compare a [op] [b] pos) m := pe_cmp h h1
theorem dt_cmp {op : CmpOp} {a b : Expr} {m : EM} {pos : Pos} (h : PC X op a b (TEx X.K X.mg W m)) (h1 : behindInMarks op b = false := by first | exact nobehind _ (by decide) (by decide) | rfl) : DT X W (.Compare a [op] [b] pos) (tB m) :=
  PT.imp (pt_cmp h h1) fun σ H Q h => tB_tx h
/-- a test whose value is True or False -/
theorem dt_val {e : Expr} {m : EM} (h : DE X W e m) (he : ∀ whole, isTrue e X.env whole = (do let v ← whole; standAt e.pos; holding [v] (truthy v)) := by intro _; rfl) : DT X W e (tB m) :=
  PT.imp (pt_val h he) fun σ H Q h => tB_tx h
theorem de_ix {g : P → P → Option P} {a b : Expr} {ma mb : EM} {pos : Pos} (ho : IxR X (r2P X.K g)) (ha : DE X W a ma) (hb : DE X W b mb) (hs : PlainIx b := by intro _ _; rfl) : DE X W (.Subscript a b pos) (mP2 g ma mb) := by
  refine PE.imp (pe_ix ho ha hb hs) fun σ H Q ⟨F, ρ, env, S, r, e, h⟩ => ?_
  unfold mP2 at h
  refine ⟨F, ρ, env, S, r, e, h.bnd.imp (fun d S1 h1 v H1 ρ1 x1 r1 v1 => ?_) fun _ _ q => q⟩
  refine ⟨F, ρ1, env, S1, r1, e.xt x1, h1.bnd.imp (fun d2 S2 h2 v2 H2 ρ2 x2 r2 w2 => ?_) fun _ _ q => q.xt x1⟩
  obtain ⟨p, e1, h2⟩ := h2.opt
  obtain ⟨q, e2, h2⟩ := h2.opt
  obtain ⟨z, e3, h2⟩ := h2.opt
  exact ⟨Bd F ρ2, p, q, z, r2.al, deref_rep r2 (v1.xt x2) e1, deref_rep r2 w2 e2, e3, fin_op r2 (KV1.xt (x1.trans x2) h2)⟩
theorem de_un {op : UnaryOp} {g : P → Option P} {a : Expr} {ma : EM} {pos : Pos} (ho : UnR X (unaryOp op) (r1P X.K g)) (ha : DE X W a ma) : DE X W (.UnaryOp op a pos) (mP1 g ma) := by
  refine PE.imp (pe_un ho ha) fun σ H Q ⟨F, ρ, env, S, r, e, h⟩ => ?_
  unfold mP1 at h
  refine ⟨F, ρ, env, S, r, e, h.bnd.imp (fun d S1 h1 v H1 ρ1 x1 r1 v1 => ?_) fun _ _ q => q⟩
  obtain ⟨p, e1, h2⟩ := h1.opt
  obtain ⟨z, e3, h2⟩ := h2.opt
  exact ⟨Bd F ρ1, p, z, r1.al, deref_rep r1 v1 e1, e3, fin_op r1 (KV1.xt x1 h2)⟩

/-! ### argument lists, displays, calls of built-ins -/
theorem da_nil : DA X W [] [] := PA.imp pa_nil fun σ H Q ⟨F, ρ, env, S, r, e, h⟩ => (show KL1 X.K H F ρ Q [] S from h) [] H ρ Xt.refl r .nil
theorem da_cons {e : Expr} {es : List Expr} {m : EM} {ms : List EM} (ha : DE X W e m) (hr : DA X W es ms) (hs : starEach (e :: es) X.env = (false, eval e X.env) :: starEach es X.env := by rfl) : DA X W (e :: es) (m :: ms) := by
  refine PA.imp (pa_cons ha hr hs) fun σ H Q ⟨F, ρ, env, S, r, e, h⟩ => ?_
  unfold evs at h
  refine ⟨F, ρ, env, S, r, e, h.bnd.imp (fun d S1 h1 v H1 ρ1 x1 r1 v1 => ?_) fun _ _ q => q⟩
  refine ⟨F, ρ1, env, S1, r1, e.xt x1, h1.bnd.imp (fun ds S2 h2 vs H2 ρ2 x2 r2 w2 => ?_) fun _ _ q => q.xt x1⟩
  exact (show KL1 X.K H F ρ Q (d :: ds) S2 from h2) (v :: vs) H2 ρ2 (x1.trans x2) r2 (.cons (v1.xt x2) w2)
/-- what a call of a built-in leaves to its arguments -/
theorem tCB_of {K : PySem.W.Frag} {mg : Str → Option Value} {g : List P → Option P} {ms : List EM} {σ : L2.St} {H : Hp} {Q : VK} (h : TEx K mg W (mPn g ms) σ H Q) : tCB (rnP K g) (TAx K mg W ms) σ H Q := by
  obtain ⟨F, ρ, env, S, r, e, h⟩ := h
  unfold mPn at h
  refine ⟨F, ρ, env, S, r, e, h.bnd.imp (fun ds S1 h1 vs H1 ρ1 x1 r1 v1 => ?_) fun _ _ q => q⟩
  obtain ⟨ps, e1, h2⟩ := h1.opt
  obtain ⟨z, e3, h2⟩ := h2.opt
  exact ⟨Bd F ρ1, ps, z, r1.al, derefs_rep r1 v1 e1, e3, fin_op r1 (KV1.xt x1 h2)⟩
theorem de_callB {x : Str} {id : String} {g : List P → Option P} {e : Expr} {es : List Expr} {ms : List EM} {p pos : Pos} (hc : CallR X (.builtin id) (rnP X.K g)) (hm : X.mg x = none) (hv : bootBuiltins x = some (.builtin id)) (ha : DA X W (e :: es) ms) (hg : Gl X x := by rfl) (hn : x ≠ "__name__" := by decide) (hdb : (x == ("__debug__" : Str)) = false := by decide)
    (he : starEach (e :: es) X.env = (false, eval e X.env) :: starEach es X.env := by rfl) (hpl : (backTo pos (starEach es X.env)).any (·.1) = false := by rfl) : DE X W (.Call (.Name x p) (e :: es) [] pos) (mPn g ms) :=
  PE.imp (pe_callB hc hg hm hv ha hn hdb he hpl) fun σ H Q h => tCB_of h
theorem de_callTy {x : Str} {T : String} {g : List P → Option P} {e : Expr} {es : List Expr} {ms : List EM} {p pos : Pos} (hc : CallR X (.type T) (rnP X.K g)) (hm : X.mg x = none) (hv : bootBuiltins x = some (.type T)) (ha : DA X W (e :: es) ms) (hg : Gl X x := by rfl) (hn : x ≠ "__name__" := by decide) (hdb : (x == ("__debug__" : Str)) = false := by decide)
    (he : starEach (e :: es) X.env = (false, eval e X.env) :: starEach es X.env := by rfl) (hpl : (backTo pos (starEach es X.env)).any (·.1) = false := by rfl) : DE X W (.Call (.Name x p) (e :: es) [] pos) (mPn g ms) :=
  PE.imp (pe_callTy hc hg hm hv ha hn hdb he hpl) fun σ H Q h => tCB_of h
theorem Same.upd {H : Hp} {p : Addr} {o : HO} (h : H p = none) : Same H (L2.upd H p o) := fun b x e => by
  rw [upd_ne (ne_of_none e h)]
  exact e
theorem ans_eq {α : Type} {r : Out α} {ok : α → List O → Prop} {ex : Str → List O → Prop} (h : Ans r ok ex) : Ans r (fun a S => r = some (.ok a, S) ∧ ok a S) ex := by
  match r, h with
  | some (.ok a, S), h => exact ⟨rfl, h⟩
  | some (.exc c, S), h => exact h
theorem len1000 {n : Nat} (h : n ≤ 1000) : n ≤ sizeLine := Nat.le_of_lt (small1000 h)
theorem de_tup {es : List Expr} {ms : List EM} {x1 : Nat} {pos : Pos} (h : DA X W es ms) (hl : ms.length ≤ 1000 := by exact Nat.le_of_ble_eq_true rfl) : DE X W (.Tuple es x1 pos) (mTup ms) := by
  refine PE.imp (pe_tup h) fun σ H Q ⟨F, ρ, env, S, r, e, h⟩ => ?_
  unfold mTup at h
  refine ⟨F, ρ, env, S, r, e, (ans_eq h.bnd).imp (fun ds S1 h1 vs H1 ρ1 x1 r1 v1 => ?_) fun _ _ q => q⟩
  obtain ⟨e0, h1⟩ := h1
  obtain ⟨ps, e1, h2⟩ := h1.opt
  refine ⟨?_, fun p np => ?_⟩
  · rw [← v1.length, evs_length e0]; exact len1000 hl
  · have s := Same.upd (o := .tup vs) np
    refine KV1.xt x1 h2 _ _ ρ1 (Xt.grow s) (r1.grow s) (.tup upd_same (fun q => r1.al p q np) ((purs_rep v1 e1).xt (Xt.grow s)))
theorem de_lst {es : List Expr} {ms : List EM} {pos : Pos} (h : DA X W es ms) (hl : ms.length ≤ 1000 := by exact Nat.le_of_ble_eq_true rfl) : DE X W (.List es pos) (mLst ms) := by
  refine PE.imp (pe_lst h) fun σ H Q ⟨F, ρ, env, S, r, e, h⟩ => ?_
  unfold mLst at h
  refine ⟨F, ρ, env, S, r, e, (ans_eq h.bnd).imp (fun ds S1 h1 vs H1 ρ1 x1 r1 v1 => ?_) fun _ _ q => q⟩
  obtain ⟨e0, h1⟩ := h1
  obtain ⟨ps, e1, h2⟩ := h1.opt
  refine ⟨?_, fun p np => ?_⟩
  · rw [← v1.length, evs_length e0]; exact len1000 hl
  · have s := Same.upd (o := .lst vs) np
    refine KV1.xt x1 h2 _ _ ρ1 (Xt.grow s) (r1.grow s) (.lst upd_same (fun q => r1.al p q np) ((purs_rep v1 e1).xt (Xt.grow s)))
end
end Z

end
section
namespace Z
open PySem PySem.Spec PyProof.Rows L2

theorem Ans.of_bnd {α β : Type} {r : Out α} {f : α → M β} {ok : β → List O → Prop} {ex : Str → List O → Prop} (h : Ans r (fun a S => Ans (f a S) ok ex) ex) : Ans (Z.bnd r f) ok ex := by
  match r, h with
  | some (.ok a, S), h => exact h
  | some (.exc c, S), h => exact h

/-! ### things come, change, go -/
section
variable {K : PySem.W.Frag} {H : Hp} {F : Dom} {ρ : Rho} {S : List O}
theorem push_xt {p : Addr} {ho : HO} (np : H p = none) : Xt H ρ (upd H p ho) (ρ ++ [some p]) := by
  have s := Same.upd (o := ho) np
  refine ⟨fun b o e _ => s b o e, fun b n => (Xt.grow (ρ := ρ) s).stay b n, by simp, fun i a e => ?_⟩
  by_cases hi : i < ρ.length
  · rw [List.getElem?_append_left hi] at e; exact .inl e
  · have hi' : ρ.length ≤ i := Nat.le_of_not_lt hi
    rw [List.getElem?_append_right hi'] at e
    have : i - ρ.length = 0 := by
      cases q : i - ρ.length with
      | zero => rfl
      | succ n => rw [q] at e; simp at e
    rw [this] at e
    cases e
    exact .inr ⟨hi', np⟩
theorem push_rl {p : Addr} {ho : HO} {o : O} (r : Rl K H F ρ S) (np : H p = none) (h : RO K (upd H p ho) F (ρ ++ [some p]) o p) : Rl K (upd H p ho) F (ρ ++ [some p]) (S ++ [o]) := by
  have s := Same.upd (o := ho) np
  have x := push_xt (ρ := ρ) (ho := ho) np
  have last : ∀ (i : Nat) (a : Addr), (ρ ++ [some p])[i]? = some (some a) → (i < ρ.length ∧ ρ[i]? = some (some a)) ∨ (i = ρ.length ∧ a = p) := fun i a e => by
    by_cases hi : i < ρ.length
    · rw [List.getElem?_append_left hi] at e; exact .inl ⟨hi, e⟩
    · have hi' : ρ.length ≤ i := Nat.le_of_not_lt hi
      rw [List.getElem?_append_right hi'] at e
      have h0 : i - ρ.length = 0 := by
        cases q : i - ρ.length with
        | zero => rfl
        | succ n => rw [q] at e; simp at e
      rw [h0] at e
      cases e
      exact .inr ⟨by omega, rfl⟩
  have nin : ∀ i : Nat, ρ[i]? = some (some p) → False := fun i e => r.al p (.inr (mem_rho.mpr ⟨i, e⟩)) np
  refine ⟨by simp [r.len], fun i j a e1 e2 => ?_, fun b q => ?_, fun i a e => ?_, fun i a o' e1 e2 => ?_, fun i o' e ng => ?_⟩
  · rcases last i a e1 with ⟨_, z1⟩ | ⟨z1, rfl⟩ <;> rcases last j _ e2 with ⟨_, z2⟩ | ⟨z2, z3⟩
    · exact r.nd i j a z1 z2
    · subst z3; exact (nin i z1).elim
    · exact (nin j z2).elim
    · rw [z1, z2]
  · rcases q with q | q
    · exact x.stay b (r.al b (.inl q))
    · obtain ⟨i, e⟩ := mem_rho.mp q
      rcases last i b e with ⟨_, z⟩ | ⟨_, rfl⟩
      · exact x.stay b (r.al b (.inr (mem_rho.mpr ⟨i, z⟩)))
      · rw [upd_same]; simp
  · rcases last i a e with ⟨_, z⟩ | ⟨_, rfl⟩
    · exact r.ds i a z
    · exact fun q => r.al a (.inl q) np
  · rcases last i a e1 with ⟨hl, z⟩ | ⟨hl, rfl⟩
    · rw [List.getElem?_append_left (by rw [← r.len]; exact hl)] at e2
      exact (r.ob i a o' z e2).xt x fun u e => s a u e
    · rw [hl, r.len, List.getElem?_append_right (Nat.le_refl _), Nat.sub_self] at e2
      cases e2
      exact h
  · by_cases hi : i < S.length
    · rw [List.getElem?_append_left hi] at e
      obtain ⟨a, ha⟩ := r.go i o' e ng
      exact ⟨a, by rw [List.getElem?_append_left (by rw [r.len]; exact hi)]; exact ha⟩
    · have hi' : S.length ≤ i := Nat.le_of_not_lt hi
      rw [List.getElem?_append_right hi'] at e
      have h0 : i - S.length = 0 := by
        cases q : i - S.length with
        | zero => rfl
        | succ n => rw [q] at e; simp at e
      refine ⟨p, ?_⟩
      rw [List.getElem?_append_right (by rw [r.len]; exact hi'), r.len, h0]
      rfl
theorem write_xt {i : Nat} {a : Addr} {ho : HO} (hi : ρ[i]? = some (some a)) : Xt H ρ (upd H a ho) ρ :=
  ⟨fun b o e n => by rw [upd_ne (fun z => n (mem_rho.mpr ⟨i, by rw [z]; exact hi⟩))]; exact e, fun b n => by
    by_cases z : b = a
    · rw [z, upd_same]; simp
    · rw [upd_ne z]; exact n, Nat.le_refl _, fun _ _ e => .inl e⟩
theorem write_rl {i : Nat} {a : Addr} {ho : HO} {o : O} (r : Rl K H F ρ S) (hi : ρ[i]? = some (some a)) (h : RO K (upd H a ho) F ρ o a) : Rl K (upd H a ho) F ρ (S.set i o) := by
  have x := write_xt (H := H) (ho := ho) hi
  have il : i < S.length := by
    rw [← r.len]; exact (List.getElem?_eq_some_iff.mp hi).1
  refine ⟨by simp [r.len], r.nd, fun b q => x.stay b (r.al b q), r.ds, fun j b o' e1 e2 => ?_, fun j o' e ng => ?_⟩
  · by_cases hj : j = i
    · subst hj
      rw [List.getElem?_set_self il] at e2
      cases e2
      rw [hi] at e1; cases e1
      exact h
    · rw [List.getElem?_set_ne (Ne.symm hj)] at e2
      refine (r.ob j b o' e1 e2).xt x fun u e => ?_
      rw [upd_ne (fun z => hj (r.nd j i b e1 (by rw [z]; exact hi)))]
      exact e
  · by_cases hj : j = i
    · subst hj; exact ⟨a, hi⟩
    · rw [List.getElem?_set_ne (Ne.symm hj)] at e
      exact r.go j o' e ng
theorem move_xt {j : Nat} : Xt H ρ H (ρ.set j none) :=
  ⟨fun _ _ e _ => e, fun _ n => n, by simp, fun i a e => by
    by_cases hj : j = i
    · subst hj
      by_cases hl : j < ρ.length
      · rw [List.getElem?_set_self hl] at e; cases e
      · rw [List.getElem?_eq_none (by simpa using hl)] at e; cases e
    · rw [List.getElem?_set_ne hj] at e; exact .inl e⟩
theorem move_rl {j : Nat} (r : Rl K H F ρ S) : Rl K H F (ρ.set j none) (S.set j .gone) := by
  have x : Xt H ρ H (ρ.set j none) := move_xt
  have back : ∀ (i : Nat) (a : Addr), (ρ.set j none)[i]? = some (some a) → ρ[i]? = some (some a) ∧ i ≠ j := fun i a e => by
    by_cases hj : j = i
    · subst hj
      by_cases hl : j < ρ.length
      · rw [List.getElem?_set_self hl] at e; cases e
      · rw [List.getElem?_eq_none (by simpa using hl)] at e; cases e
    · rw [List.getElem?_set_ne hj] at e; exact ⟨e, fun z => hj z.symm⟩
  refine ⟨by simp [r.len], fun i k a e1 e2 => r.nd i k a (back i a e1).1 (back k a e2).1, fun b q => ?_, fun i a e => r.ds i a (back i a e).1, fun i a o e1 e2 => ?_, fun i o e ng => ?_⟩
  · rcases q with q | q
    · exact r.al b (.inl q)
    · obtain ⟨i, e⟩ := mem_rho.mp q
      exact r.al b (.inr (mem_rho.mpr ⟨i, (back i b e).1⟩))
  · obtain ⟨h1, h2⟩ := back i a e1
    rw [List.getElem?_set_ne (Ne.symm h2)] at e2
    exact (r.ob i a o h1 e2).xt x fun _ e => e
  · by_cases hj : j = i
    · subst hj
      by_cases hl : j < S.length
      · rw [List.getElem?_set_self hl] at e; cases e; exact absurd rfl ng
      · rw [List.getElem?_eq_none (by simpa using hl)] at e; cases e
    · rw [List.getElem?_set_ne hj] at e
      obtain ⟨a, ha⟩ := r.go i o e ng
      exact ⟨a, by rw [List.getElem?_set_ne hj]; exact ha⟩
theorem pure_rep {F' : Dom} {ρ' : Rho} {o : O} {a : Addr} {x : P} (h : RO K H F' ρ' o a) (e : o.pure = some x) (hb : ∀ b, Bd F ρ b → Bd F' ρ' b ∨ H b = none) (na : ¬ Bd F ρ a) : Rep K H (Bd F ρ) x (.ref a) := by
  cases o with
  | gone => cases e
  | rl ks => cases e
  | pl xs => cases e; obtain ⟨vs, h1, h2⟩ := h; exact .lst h1 na (h2.mono (fun _ _ e _ => e) hb)
  | pd xs => cases e; obtain ⟨vs, h1, h2⟩ := h; exact .dct (.inl h1) na (h2.mono (fun _ _ e _ => e) hb)
  | pdT xs => cases e; obtain ⟨vs, h1, h2⟩ := h; exact .dcT (.inl h1) na (h2.mono (fun _ _ e _ => e) hb)
end

section
variable {X : Cx} {W : WX}
theorem de_mv (i : Nat) {x : Str} {pos : Pos} (hN : X.N[i]? = some x := by rfl) (hv : Vis X.env.scope x := by first | exact Or.inl rfl | exact Or.inr (Or.inl rfl) | exact Or.inr (Or.inr rfl)) (hd : (x == ("__debug__" : Str)) = false := by decide)
    (hcd : (x == ("__classdict__" : Str)) = false := by decide) : DE X W (.Name x pos) (mMv i) := by
  refine PE.imp (pe_var hN hv hd hcd) fun σ H Q ⟨F, ρ, env, S, r, e, a⟩ => ?_
  unfold mMv at a
  split at a
  · rename_i j hj
    obtain ⟨v, h1, h2⟩ := e.get i _ hj
    obtain ⟨x, e1, a⟩ := a.opt
    obtain ⟨o, e2, e3⟩ := Option.bind_eq_some_iff.mp e1
    have ng : o ≠ .gone := by rintro rfl; cases e3
    obtain ⟨b, hb⟩ := r.go j o e2 ng
    have hv := h2.2 b hb
    subst hv
    refine ⟨.ref b, h1, a _ H (ρ.set j none) move_xt (move_rl r) (pure_rep (r.ob j b o hb e2) e3 (Xt.hb move_xt) fun q => ?_)⟩
    rcases q with q | q
    · exact r.ds j b hb q
    · obtain ⟨i', e'⟩ := mem_rho.mp q
      by_cases hj' : j = i'
      · subst hj'
        rw [List.getElem?_set_self (List.getElem?_eq_some_iff.mp hb).1] at e'; cases e'
      · rw [List.getElem?_set_ne hj'] at e'
        exact hj' (r.nd j i' b hb e')
  · exact a.elim
theorem de_newL {es : List Expr} {ms : List EM} {pos : Pos} (h : DA X W es ms) (hl : ms.length ≤ 1000 := by exact Nat.le_of_ble_eq_true rfl) : DE X W (.List es pos) (mNewL ms) := by
  refine PE.imp (pe_lst h) fun σ H Q ⟨F, ρ, env, S, r, e, h⟩ => ?_
  unfold mNewL at h
  refine ⟨F, ρ, env, S, r, e, (ans_eq h.bnd).imp (fun ds S1 h1 vs H1 ρ1 x1 r1 v1 => ?_) fun _ _ q => q⟩
  obtain ⟨e0, h1⟩ := h1
  obtain ⟨ps, e1, h2⟩ := h1.opt
  refine ⟨?_, fun p np => ?_⟩
  · rw [← v1.length, evs_length e0]; exact len1000 hl
  · have px : Xt H1 ρ1 (upd H1 p (.lst vs)) (ρ1 ++ [some p]) := push_xt np
    refine KV1.xt x1 h2 _ _ (ρ1 ++ [some p]) px (push_rl r1 np ⟨vs, upd_same, (purs_rep v1 e1).xt px⟩) ⟨?_, fun a ha => ?_⟩
    · rw [← r1.len]; simp
    · rw [← r1.len, List.getElem?_append_right (Nat.le_refl _), Nat.sub_self] at ha
      cases ha; rfl
theorem refs_rep {K : PySem.W.Frag} {H : Hp} {F : Dom} {ρ : Rho} : ∀ {ds : List Val} {vs : List V} {ks : List Nat}, RVs K H F ρ ds vs → refs ds = some ks → RVs K H F ρ (ks.map Val.ref) vs
  | _, _, _, .nil, e => by cases e; exact .nil
  | .ref i :: _, _, _, .cons h t, e => by
    unfold refs at e
    obtain ⟨ps, e2, e⟩ := Option.bind_eq_some_iff.mp e
    cases e
    exact .cons h (refs_rep t e2)
  | .p x :: _, _, _, .cons h t, e => by cases e
theorem de_newR {es : List Expr} {ms : List EM} {pos : Pos} (h : DA X W es ms) (hl : ms.length ≤ 1000 := by exact Nat.le_of_ble_eq_true rfl) : DE X W (.List es pos) (mNewR ms) := by
  refine PE.imp (pe_lst h) fun σ H Q ⟨F, ρ, env, S, r, e, h⟩ => ?_
  unfold mNewR at h
  refine ⟨F, ρ, env, S, r, e, (ans_eq h.bnd).imp (fun ds S1 h1 vs H1 ρ1 x1 r1 v1 => ?_) fun _ _ q => q⟩
  obtain ⟨e0, h1⟩ := h1
  obtain ⟨ks, e1, h2⟩ := h1.opt
  refine ⟨?_, fun p np => ?_⟩
  · rw [← v1.length, evs_length e0]; exact len1000 hl
  · have px : Xt H1 ρ1 (upd H1 p (.lst vs)) (ρ1 ++ [some p]) := push_xt np
    refine KV1.xt x1 h2 _ _ (ρ1 ++ [some p]) px (push_rl r1 np ⟨vs, upd_same, (refs_rep v1 e1).xt px⟩) ⟨?_, fun a ha => ?_⟩
    · rw [← r1.len]; simp
    · rw [← r1.len, List.getElem?_append_right (Nat.le_refl _), Nat.sub_self] at ha
      cases ha; rfl
theorem de_newD {pos : Pos} : DE X W (.Dict [] [] pos) mNewD := by
  refine PE.imp pe_dnewK fun σ H Q ⟨F, ρ, env, S, r, e, h⟩ p np => ?_
  have px : Xt H ρ (upd H p (.dK [])) (ρ ++ [some p]) := push_xt np
  refine (show KV1 X.K H F ρ Q (.ref S.length) (S ++ [.pd []]) from h) _ _ (ρ ++ [some p]) px (push_rl r np ⟨[], upd_same, .nil⟩) ⟨?_, fun a ha => ?_⟩
  · rw [← r.len]; simp
  · rw [← r.len, List.getElem?_append_right (Nat.le_refl _), Nat.sub_self] at ha
    cases ha; rfl
/-- one argument -/
theorem tax_one {K : PySem.W.Frag} {mg : Str → Option Value} {m : EM} {σ : L2.St} {H : Hp} {Q : List V → Hp → Prop} (h : TEx K mg W m σ H fun v H1 => Q [v] H1) : TAx K mg W [m] σ H Q := by
  obtain ⟨F, ρ, env, S, r, e, a⟩ := h
  refine ⟨F, ρ, env, S, r, e, Ans.of_bnd (a.imp (fun d S1 h1 => ?_) fun _ _ q => q)⟩
  show KL1 K H F ρ Q [d] S1
  intro vs H' ρ' x r' v
  cases v with
  | cons v t => cases t; exact h1 _ H' ρ' x r' v
theorem thing_lst {K : PySem.W.Frag} {H : Hp} {F : Dom} {ρ : Rho} {S : List O} {i : Nat} {v : V} {o : O} (r : Rl K H F ρ S) (h : RV K H F ρ (.ref i) v) (e : S[i]? = some o) (ng : o ≠ .gone) : ∃ a, ρ[i]? = some (some a) ∧ v = .ref a ∧ RO K H F ρ o a := by
  obtain ⟨a, ha⟩ := r.go i o e ng
  exact ⟨a, ha, h.2 a ha, r.ob i a o ha e⟩
theorem ty_list {K : PySem.W.Frag} {H : Hp} {a : Addr} {vs : List V} (h : H a = some (.lst vs)) : tyV K "list" (.ref a) H := Or.inl ⟨rfl, vs, SqL.of h⟩
theorem lstAt_ty {K : PySem.W.Frag} {H : Hp} {F : Dom} {ρ : Rho} {S : List O} {i : Nat} {v : V} (r : Rl K H F ρ S) (h : RV K H F ρ (.ref i) v) (e : lstAt S i = true) : tyV K "list" v H := by
  unfold lstAt at e
  split at e
  · rename_i xs q
    obtain ⟨a, _, rfl, vs, h1, _⟩ := thing_lst r h q (by simp)
    exact ty_list h1
  · rename_i xs q
    obtain ⟨a, _, rfl, vs, h1, _⟩ := thing_lst r h q (by simp)
    exact ty_list h1
  · cases e
/-- a method of a list with one argument, by what it does to the thing -/
theorem de_meth {c : Expr} {mo me : EM} {f : Nat → Val → M Val} {rd : V → List V → Hp → VK → Prop} (h : PE X c (tBM X.K "list" rd (TEx X.K X.mg W mo) (TAx X.K X.mg W [me])))
    (hf : ∀ {H : Hp} {F : Dom} {ρ : Rho} {S : List O} {i : Nat} {u : Val} {v w : V} {Q : VK} {σ : L2.St}, Rl X.K H F ρ S → RV X.K H F ρ (.ref i) v → RV X.K H F ρ u w → Ans (f i u S) (KV1 X.K H F ρ Q) (KX1 X.K X.mg H F ρ σ W) → rd v [w] H Q) : DE X W c (mMeth f mo me) := by
  refine PE.imp h fun σ H Q ⟨F, ρ, env, S, r, e, h⟩ => ?_
  unfold mMeth at h
  refine ⟨F, ρ, env, S, r, e, h.bnd.imp (fun d S1 h1 v H1 ρ1 x1 r1 v1 => ?_) fun _ _ q => q⟩
  match d, h1, v1 with
  | .ref i, h1, v1 =>
    dsimp only at h1
    by_cases hl : lstAt S1 i = true
    · rw [if_pos hl] at h1
      refine ⟨lstAt_ty r1 v1 hl, tax_one ⟨F, ρ1, env, S1, r1, e.xt x1, h1.bnd.imp (fun u S2 h2 w H2 ρ2 x2 r2 w2 => ?_) fun _ _ q => q.xt x1⟩⟩
      exact hf r2 (v1.xt x2) w2 (h2.imp (fun _ _ q => q.xt (x1.trans x2)) fun _ _ q => q.xt (x1.trans x2))
    · rw [if_neg hl] at h1; exact h1.elim
theorem de_append {c : Expr} {mo me : EM} (h : PE X c (tBM X.K "list" rAppend (TEx X.K X.mg W mo) (TAx X.K X.mg W [me]))) : DE X W c (mMeth appV mo me) := by
  refine de_meth h fun {H F ρ S i u v w Q σ} r v1 w1 a => ?_
  unfold appV at a
  split at a
  · rename_i x xs q
    obtain ⟨b, hb, rfl, vs, h1, h2⟩ := thing_lst r v1 q (by simp)
    split at a
    · rename_i hl
      refine ⟨b, vs, w, rfl, rfl, h1, by rw [← h2.length]; exact hl, ?_⟩
      have x := write_xt (H := H) (ho := .lst (vs ++ [w])) hb
      exact a _ _ ρ x (write_rl r hb ⟨_, upd_same, (h2.xt x).append (.cons (Rep.xt x w1) .nil)⟩) .non
    · exact a.elim
  · rename_i j ks q
    obtain ⟨b, hb, rfl, vs, h1, h2⟩ := thing_lst r v1 q (by simp)
    split at a
    · rename_i hl
      have hl2 : vs.length = ks.length := by rw [← h2.length, List.length_map]
      refine ⟨b, vs, w, rfl, rfl, h1, by rw [hl2]; exact hl, ?_⟩
      have x := write_xt (H := H) (ho := .lst (vs ++ [w])) hb
      exact a _ _ ρ x (write_rl r hb ⟨_, upd_same, by rw [List.map_append]; exact (h2.xt x).append (.cons (RV.xt x w1) .nil)⟩) .non
    · exact a.elim
  · exact a.elim
theorem Rep.lstI {K : PySem.W.Frag} {H : Hp} {B : Dom} {xs : List P} {v : V} (h : Rep K H B (.lst xs) v) : ∃ a vs, v = .ref a ∧ H a = some (.lst vs) ∧ ¬ B a ∧ RepL K H B xs vs := by
  cases h with
  | lst e n r => exact ⟨_, _, rfl, e, n, r⟩
theorem de_extend {c : Expr} {mo me : EM} (h : PE X c (tBM X.K "list" rExtend (TEx X.K X.mg W mo) (TAx X.K X.mg W [me]))) : DE X W c (mMeth extV mo me) := by
  refine de_meth h fun {H F ρ S i u v w Q σ} r v1 w1 a => ?_
  unfold extV at a
  split at a
  · rename_i ys xs q
    obtain ⟨b, hb, rfl, vs, h1, h2⟩ := thing_lst r v1 q (by simp)
    obtain ⟨c, ws, rfl, g1, _, g2⟩ := Rep.lstI w1
    split at a
    · rename_i hl
      refine ⟨b, c, vs, ws, rfl, rfl, h1, g1, by rw [← h2.length, ← g2.length]; exact hl, ?_⟩
      have x := write_xt (H := H) (ho := .lst (vs ++ ws)) hb
      exact a _ _ ρ x (write_rl r hb ⟨_, upd_same, (h2.xt x).append (g2.xt x)⟩) .non
    · exact a.elim
  · exact a.elim
theorem seqIx_nat {k : Int} {n : Nat} (h0 : 0 ≤ k) (h : k.toNat < n) : seqIndex? k n = some k.toNat := by
  have : ixN n k = some k.toNat := by
    unfold ixN
    rw [if_pos h0, if_pos (by omega)]
  exact (ixN_seq this).1
theorem de_popAt {c : Expr} {mo me : EM} (h : PE X c (tBM X.K "list" rPopAt (TEx X.K X.mg W mo) (TAx X.K X.mg W [me]))) : DE X W c (mMeth popV mo me) := by
  refine de_meth h fun {H F ρ S i u v w Q σ} r v1 w1 a => ?_
  unfold popV at a
  split at a
  · rename_i k xs q
    obtain ⟨b, hb, rfl, vs, h1, h2⟩ := thing_lst r v1 q (by simp)
    cases w1
    split at a
    · rename_i hl
      have hl2 := smB_bd hl.2
      obtain ⟨x, e1, a⟩ := a.opt
      obtain ⟨w, e2, e3⟩ := h2.get' e1
      have hlen : k.toNat < vs.length := (List.getElem?_eq_some_iff.mp e2).1
      refine ⟨b, vs, k, k.toNat, w, rfl, rfl, h1, by omega, by omega, seqIx_nat hl.1 hlen, e2, ?_⟩
      have x := write_xt (H := H) (ho := .lst (vs.eraseIdx k.toNat)) hb
      exact a _ _ ρ x (write_rl r hb ⟨_, upd_same, (h2.xt x).eraseIdx _⟩) (Rep.xt x e3)
    · exact a.elim
  · exact a.elim
theorem RepL.dropLast {K : PySem.W.Frag} {H : Hp} {B : Dom} {xs : List P} {vs : List V} (h : RepL K H B xs vs) : RepL K H B xs.dropLast vs.dropLast := by
  rw [List.dropLast_eq_take, List.dropLast_eq_take, h.length]
  exact h.take _
theorem de_pop0 {c : Expr} {mo : EM} (h : PE X c (tBM0 X.K "list" rPop (TEx X.K X.mg W mo))) : DE X W c (mPop0 mo) := by
  refine PE.imp h fun σ H Q ⟨F, ρ, env, S, r, e, h⟩ => ?_
  unfold mPop0 at h
  refine ⟨F, ρ, env, S, r, e, h.bnd.imp (fun d S1 h1 v H1 ρ1 x1 r1 v1 => ?_) fun _ _ q => q⟩
  match d, h1, v1 with
  | .ref i, h1, v1 =>
    have h1 : Ans (match S1[i]? with
      | some (.pl xs) => (xs[xs.length - 1]?).bind fun x => some (.ok (.p x), S1.set i (.pl xs.dropLast))
      | _ => none) (KV1 X.K H F ρ Q) (KX1 X.K X.mg H F ρ σ W) := h1
    split at h1
    · rename_i xs q
      obtain ⟨b, hb, rfl, vs, g1, g2⟩ := thing_lst r1 v1 q (by simp)
      obtain ⟨x, e1, a⟩ := h1.opt
      obtain ⟨w, e2, e3⟩ := g2.get' e1
      refine ⟨ty_list g1, b, vs, w, rfl, rfl, g1, by rw [← g2.length]; exact e2, ?_⟩
      have x := write_xt (H := H1) (ho := .lst vs.dropLast) hb
      exact KV1.xt x1 a _ _ ρ1 x (write_rl r1 hb ⟨_, upd_same, (g2.xt x).dropLast⟩) (Rep.xt x e3)
    · exact h1.elim

/-! ### and, or, not, if -/
theorem de_and {a b : Expr} {rest : List Expr} {ma mb : EM} {pos : Pos} (ha : DE X W a ma) (hb : DE X W (.BoolOp .And (b :: rest) pos) mb) : DE X W (.BoolOp .And (a :: b :: rest) pos) (mAnd ma mb) := by
  refine PE.imp (pe_and ha hb) fun σ H Q ⟨F, ρ, env, S, r, e, h⟩ => ?_
  unfold mAnd at h
  refine ⟨F, ρ, env, S, r, e, h.bnd.imp (fun d S1 h1 v H1 ρ1 x1 r1 v1 => ?_) fun _ _ q => q⟩
  match d, h1, v1 with
  | .p (.bl true), h1, v1 => cases v1; exact ⟨true, rfl, ⟨F, ρ1, env, S1, r1, e.xt x1, h1.imp (fun _ _ q => q.xt x1) fun _ _ q => q.xt x1⟩⟩
  | .p (.bl false), h1, v1 => cases v1; exact ⟨false, rfl, (show KV1 X.K H F ρ Q (.p (.bl false)) S1 from h1) _ H1 ρ1 x1 r1 (.bl false)⟩
theorem de_or {a b : Expr} {rest : List Expr} {ma mb : EM} {pos : Pos} (ha : DE X W a ma) (hb : DE X W (.BoolOp .Or (b :: rest) pos) mb) : DE X W (.BoolOp .Or (a :: b :: rest) pos) (mOr ma mb) := by
  refine PE.imp (pe_or ha hb) fun σ H Q ⟨F, ρ, env, S, r, e, h⟩ => ?_
  unfold mOr at h
  refine ⟨F, ρ, env, S, r, e, h.bnd.imp (fun d S1 h1 v H1 ρ1 x1 r1 v1 => ?_) fun _ _ q => q⟩
  match d, h1, v1 with
  | .p (.bl false), h1, v1 => cases v1; exact ⟨false, rfl, ⟨F, ρ1, env, S1, r1, e.xt x1, h1.imp (fun _ _ q => q.xt x1) fun _ _ q => q.xt x1⟩⟩
  | .p (.bl true), h1, v1 => cases v1; exact ⟨true, rfl, (show KV1 X.K H F ρ Q (.p (.bl true)) S1 from h1) _ H1 ρ1 x1 r1 (.bl true)⟩
theorem de_one {op : BoolOp} {a : Expr} {ma : EM} {pos : Pos} (ha : DE X W a ma) : DE X W (.BoolOp op [a] pos) ma := pe_one ha
theorem de_not {a : Expr} {ma : EM} {pos : Pos} (ha : DE X W a ma) : DE X W (.UnaryOp .Not a pos) (mNot ma) := by
  refine PE.imp (pe_not ha) fun σ H Q ⟨F, ρ, env, S, r, e, h⟩ => ?_
  unfold mNot at h
  refine ⟨F, ρ, env, S, r, e, h.bnd.imp (fun d S1 h1 v H1 ρ1 x1 r1 v1 => ?_) fun _ _ q => q⟩
  match d, h1, v1 with
  | .p (.bl b), h1, v1 => cases v1; exact ⟨b, rfl, (show KV1 X.K H F ρ Q (.p (.bl (!b))) S1 from h1) _ H1 ρ1 x1 r1 (.bl _)⟩
theorem de_if {t a b : Expr} {mt : TM} {ma mb : EM} {pos : Pos} (ht : DT X W t mt) (ha : DE X W a ma) (hb : DE X W b mb) : DE X W (.IfExp t a b pos) (mIf mt ma mb) := by
  refine PE.imp (pe_ifExp ht ha hb) fun σ H Q ⟨F, ρ, env, S, r, e, h⟩ => ?_
  unfold mIf at h
  refine ⟨F, ρ, env, S, r, e, h.bnd.imp (fun c S1 h1 H1 ρ1 x1 r1 => ?_) fun _ _ q => q⟩
  cases c with
  | true => exact ⟨F, ρ1, env, S1, r1, e.xt x1, Ans.imp (by simpa using h1) (fun _ _ q => KV1.xt x1 q) fun _ _ q => KX1.xt x1 q⟩
  | false => exact ⟨F, ρ1, env, S1, r1, e.xt x1, Ans.imp (by simpa using h1) (fun _ _ q => KV1.xt x1 q) fun _ _ q => KX1.xt x1 q⟩
abbrev DW (X : Cx) (W : WX) (e : Expr) (m : TM) : Prop := PW X e (TTx X.K X.mg W m)
theorem dw_and1 {a : Expr} {ma : TM} {pos : Pos} (ha : DT X W a ma) : DW X W (.BoolOp .And [a] pos) ma := pw_and1 ha
theorem dw_or1 {a : Expr} {ma : TM} {pos : Pos} (ha : DT X W a ma) : DW X W (.BoolOp .Or [a] pos) ma := pw_or1 ha
theorem dw_and {a b : Expr} {rest : List Expr} {ma mb : TM} {pos : Pos} (ha : DT X W a ma) (hb : DW X W (.BoolOp .And (b :: rest) pos) mb) : DW X W (.BoolOp .And (a :: b :: rest) pos) (tAndM ma mb) := by
  refine PW.imp (pw_and ha hb) fun σ H Q ⟨F, ρ, env, S, r, e, h⟩ => ?_
  unfold tAndM at h
  refine ⟨F, ρ, env, S, r, e, h.bnd.imp (fun c S1 h1 H1 ρ1 x1 r1 => ?_) fun _ _ q => q⟩
  cases c with
  | true => exact ⟨F, ρ1, env, S1, r1, e.xt x1, Ans.imp (by simpa using h1) (fun _ _ q => KB1.xt x1 q) fun _ _ q => KX1.xt x1 q⟩
  | false => exact (show KB1 X.K H F ρ Q false S1 from h1) H1 ρ1 x1 r1
theorem dw_or {a b : Expr} {rest : List Expr} {ma mb : TM} {pos : Pos} (ha : DT X W a ma) (hb : DW X W (.BoolOp .Or (b :: rest) pos) mb) : DW X W (.BoolOp .Or (a :: b :: rest) pos) (tOrM ma mb) := by
  refine PW.imp (pw_or ha hb) fun σ H Q ⟨F, ρ, env, S, r, e, h⟩ => ?_
  unfold tOrM at h
  refine ⟨F, ρ, env, S, r, e, h.bnd.imp (fun c S1 h1 H1 ρ1 x1 r1 => ?_) fun _ _ q => q⟩
  cases c with
  | false => exact ⟨F, ρ1, env, S1, r1, e.xt x1, Ans.imp (by simpa using h1) (fun _ _ q => KB1.xt x1 q) fun _ _ q => KX1.xt x1 q⟩
  | true => exact (show KB1 X.K H F ρ Q true S1 from h1) H1 ρ1 x1 r1
theorem dt_w {e : Expr} {m : TM} (h : DW X W e m) : DT X W e m := h.pt
theorem dt_not {a : Expr} {ma : TM} {pos : Pos} (ha : DT X W a ma) : DT X W (.UnaryOp .Not a pos) (tNotM ma) := by
  refine PT.imp (pt_not ha) fun σ H Q ⟨F, ρ, env, S, r, e, h⟩ => ?_
  unfold tNotM at h
  exact ⟨F, ρ, env, S, r, e, h.bnd.imp (fun c S1 h1 H1 ρ1 x1 r1 => (show KB1 X.K H F ρ Q (!c) S1 from h1) H1 ρ1 x1 r1) fun _ _ q => q⟩
theorem truth_rep {K : PySem.W.Frag} {H : Hp} {F : Dom} {ρ : Rho} {S : List O} {d : Val} {v : V} {b : Bool} (r : Rl K H F ρ S) (h : RV K H F ρ d v) (e : truthV S d = some b) : TruV K v H b := by
  cases d with
  | p x =>
    have e : truthP x = some b := e
    have h : Rep K H (Bd F ρ) x v := h
    cases h with
    | non => cases e; rfl
    | bl b => cases e; rfl
    | int i => cases e; rfl
    | str x =>
      unfold truthP at e
      dsimp only at e
      split at e
      · cases e; exact ⟨by assumption, rfl⟩
      · cases e
    | tup e1 n r1 =>
      cases e
      exact .inr (.inl ⟨_, SqT.of e1, by cases r1 <;> rfl⟩)
    | lst e1 n r1 =>
      cases e
      exact .inl ⟨_, SqL.of e1, by cases r1 <;> rfl⟩
    | fz f =>
      cases e
      obtain ⟨a, e1, e2⟩ := RepA.fz (.rep (.fz f))
      cases e1
      exact .inl ⟨_, e2, by rw [List.isEmpty_map]⟩
    | dct e1 n r1 => cases e
    | dcT e1 n r1 => cases e
  | ref i =>
    have e : (S[i]?).bind O.truth = some b := e
    obtain ⟨o, e1, e2⟩ := Option.bind_eq_some_iff.mp e
    obtain ⟨a, _, rfl, ro⟩ := thing_lst r h e1 (by rintro rfl; cases e2)
    cases o with
    | gone => cases e2
    | pl xs => cases e2; obtain ⟨vs, h1, h2⟩ := ro; exact .inl ⟨_, SqL.of h1, by cases h2 <;> rfl⟩
    | rl ks =>
      cases e2
      obtain ⟨vs, h1, h2⟩ := ro
      refine .inl ⟨_, SqL.of h1, ?_⟩
      cases ks with
      | nil => cases h2; rfl
      | cons k ks => cases h2; rfl
    | pd xs => cases e2; obtain ⟨vs, h1, h2⟩ := ro; exact .inr (.inr ⟨_, h1, by cases h2 <;> rfl⟩)
    | pdT xs => cases e2
theorem dt_tr {e : Expr} {m : EM} (h : DE X W e m) (he : ∀ whole, isTrue e X.env whole = (do let v ← whole; standAt e.pos; holding [v] (truthy v)) := by intro _; rfl) : DT X W e (tTr m) := by
  refine PT.imp (pt_truth h he) fun σ H Q ⟨F, ρ, env, S, r, e, h⟩ => ?_
  unfold tTr at h
  refine ⟨F, ρ, env, S, r, e, h.bnd.imp (fun d S1 h1 v H1 ρ1 x1 r1 v1 => ?_) fun _ _ q => q⟩
  obtain ⟨b, e1, h1⟩ := h1.opt
  exact ⟨b, truth_rep r1 v1 e1, (show KB1 X.K H F ρ Q b S1 from h1) H1 ρ1 x1 r1⟩
end
end Z

end
section
namespace Z
open PySem PySem.Spec PyProof.Rows L2

section
variable {K : PySem.W.Frag} {H : Hp} {F : Dom} {ρ : Rho} {env : Env} {σ : L2.St}
theorem RE.set {i : Nat} {d : Val} {v : V} (h : RE K H F ρ env σ) (q : RV K H F ρ d v) : RE K H F ρ (env.set i (some d)) (σ.set i (some v)) := by
  refine ⟨by simp [h.len], fun j d' e => ?_⟩
  by_cases hj : i = j
  · subst hj
    have hl : i < env.length := by
      by_cases z : i < env.length
      · exact z
      · rw [List.getElem?_eq_none (by simpa using z)] at e; cases e
    rw [List.getElem?_set_self hl] at e
    cases e
    exact ⟨v, List.getElem?_set_self (by rw [← h.len]; exact hl), q⟩
  · rw [List.getElem?_set_ne hj] at e
    obtain ⟨v', h1, h2⟩ := h.get j d' e
    exact ⟨v', by rw [List.getElem?_set_ne hj]; exact h1, h2⟩
theorem RE.unset {i : Nat} (h : RE K H F ρ env σ) : RE K H F ρ (env.set i none) σ := by
  refine ⟨by simp [h.len], fun j d' e => ?_⟩
  by_cases hj : i = j
  · subst hj
    by_cases z : i < env.length
    · rw [List.getElem?_set_self z] at e; cases e
    · rw [List.getElem?_eq_none (by simpa using z)] at e; cases e
  · rw [List.getElem?_set_ne hj] at e
    exact h.get j d' e
theorem RE.clr : ∀ {is : List Nat} {env : Env}, RE K H F ρ env σ → RE K H F ρ (Z.clr is env) σ
  | [], _, h => h
  | i :: is, env, h => RE.clr (is := is) (env := env.set i none) h.unset
theorem clr_length : ∀ {is : List Nat} {env : Env}, (clr is env).length = env.length
  | [], _ => rfl
  | i :: is, env => by
    show (clr is (env.set i none)).length = env.length
    rw [clr_length, List.length_set]
theorem clr_some : ∀ {is : List Nat} {env : Env} {j : Nat} {d : Val}, (clr is env)[j]? = some (some d) → env[j]? = some (some d) ∧ j ∉ is
  | [], _, _, _, h => ⟨h, by simp⟩
  | i :: is, env, j, d, h => by
    obtain ⟨h1, h2⟩ := clr_some (is := is) (env := env.set i none) h
    by_cases hj : i = j
    · subst hj
      by_cases z : i < env.length
      · rw [List.getElem?_set_self z] at h1; cases h1
      · rw [List.getElem?_eq_none (by simpa using z)] at h1; cases h1
    · rw [List.getElem?_set_ne hj] at h1
      exact ⟨h1, by simp only [List.mem_cons, not_or]; exact ⟨fun e => hj e.symm, h2⟩⟩
theorem RE.wipe {is : List Nat} (h : RE K H F ρ env σ) : RE K H F ρ (Z.clr is env) (L2.wipe σ is) := by
  refine ⟨by rw [clr_length, wipe_length, h.len], fun j d e => ?_⟩
  obtain ⟨h1, h2⟩ := clr_some e
  obtain ⟨v, g1, g2⟩ := h.get j d h1
  exact ⟨v, by rw [wipe_out h2]; exact g1, g2⟩
end

/-! ### targets -/
mutual
def Tg.slots : Tg → List Nat
  | .nm i => [i]
  | .tp ts => slotsL ts
def slotsL : List Tg → List Nat
  | [] => []
  | t :: ts => t.slots ++ slotsL ts
end
section
variable (K : PySem.W.Frag)
def TGx (t : Tg) : TG := fun v σ H Q => ∃ F ρ env x e, RE K H F ρ env σ ∧ Rep K H (Bd F ρ) x v ∧ asg t x env = some e ∧ ∀ σ' : L2.St, RE K H F ρ e σ' → σ'.length = σ.length → (∀ i : Nat, i ∉ t.slots → σ'[i]? = σ[i]?) → Q σ' H
def TGsx (ts : List Tg) : TGs := fun vs σ H Q => ∃ F ρ env xs e, RE K H F ρ env σ ∧ RepL K H (Bd F ρ) xs vs ∧ asgs ts xs env = some e ∧ ∀ σ' : L2.St, RE K H F ρ e σ' → σ'.length = σ.length → (∀ i : Nat, i ∉ slotsL ts → σ'[i]? = σ[i]?) → Q σ' H
end
abbrev DG (X : Cx) (e : Expr) (t : Tg) : Prop := PG X e (TGx X.K t)
abbrev DGs (X : Cx) (es : List Expr) (ts : List Tg) : Prop := PGs X es (TGsx X.K ts)
section
variable {X : Cx} {W : WX} {pos : Pos}
theorem dg_name (i : Nat) {x : Str} (hN : X.N.Nodup) (hi : X.N[i]? = some x := by rfl) (hx : Loc X.env.scope x := by first | exact Or.inl rfl | exact Or.inr rfl) (hf : X.fn x = true ∨ X.env.scope.names.lookup x = some .local := by first | exact .inl rfl | exact .inr rfl | assumption) : DG X (.Name x pos) (.nm i) := by
  refine PG.imp (pg_name hN hi hx hf) fun v σ H Q ⟨F, ρ, env, x, e, he, hr, ha, q⟩ => ?_
  cases ha
  refine q _ (he.set hr) (by simp) fun j hj => ?_
  have : i ≠ j := fun z => hj (by rw [z]; exact List.mem_singleton.mpr rfl)
  rw [List.getElem?_set_ne this]
theorem dgs_nil : DGs X [] [] := by
  refine PGs.imp pgs_nil fun vs σ H Q ⟨F, ρ, env, xs, e, he, hr, ha, q⟩ => ?_
  cases hr with
  | nil => cases ha; exact ⟨rfl, q σ he rfl fun _ _ => rfl⟩
  | cons h t => cases ha
theorem dgs_cons {e : Expr} {es : List Expr} {t : Tg} {ts : List Tg} (h1 : DG X e t) (h2 : DGs X es ts) (hs : (assignEach (e :: es) X.env).map (·.2) = assign e X.env :: (assignEach es X.env).map (·.2) := by rfl) : DGs X (e :: es) (t :: ts) := by
  refine PGs.imp (pgs_cons h1 h2 hs) fun vs σ H Q ⟨F, ρ, env, xs, en, he, hr, ha, q⟩ => ?_
  cases hr with
  | nil => cases ha
  | @cons x v xs vs h r =>
    have ha : (asg t x env).bind (fun e => asgs ts xs e) = some en := ha
    obtain ⟨e1, a1, a2⟩ := Option.bind_eq_some_iff.mp ha
    refine ⟨v, vs, rfl, F, ρ, env, x, e1, he, h, a1, fun σ1 he1 hl1 ho1 => ?_⟩
    refine ⟨F, ρ, e1, xs, en, he1, r, a2, fun σ2 he2 hl2 ho2 => q σ2 he2 (hl2.trans hl1) fun i hi => ?_⟩
    have hi' : i ∉ t.slots ++ slotsL ts := hi
    rw [List.mem_append, not_or] at hi'
    rw [ho2 i hi'.2, ho1 i hi'.1]
theorem asgs_len : ∀ {ts : List Tg} {xs : List P} {env e : Env}, asgs ts xs env = some e → ts.length = xs.length
  | [], [], _, _, _ => rfl
  | [], _ :: _, _, _, h => by cases h
  | _ :: _, [], _, _, h => by cases h
  | t :: ts, x :: xs, env, e, h => by
    have h : (asg t x env).bind (fun e => asgs ts xs e) = some e := h
    obtain ⟨e1, a1, a2⟩ := Option.bind_eq_some_iff.mp h
    rw [List.length_cons, List.length_cons, asgs_len a2]
theorem dg_tup {es : List Expr} {k : Nat} {ts : List Tg} (h : DGs X es ts) (hc : X.calm = true := by rfl) (hn : (assignEach es X.env).length = ts.length := by rfl) (hst : (assignEach es X.env).findIdx? (·.1) = none := by rfl) : DG X (.Tuple es k pos) (.tp ts) := by
  refine PG.imp (PG.or (pg_tup hc h hn hst) (pg_lst hc h hn hst)) fun v σ H Q ⟨F, ρ, env, x, en, he, hr, ha, q⟩ => ?_
  cases hr with
  | tup e n r =>
    refine .inl ⟨_, _, rfl, SqT.of e, ?_, F, ρ, env, _, en, he, r, ha, q⟩
    rw [← r.length]; exact (asgs_len (show asgs ts _ env = some en from ha)).symm
  | lst e n r =>
    refine .inr ⟨_, _, rfl, SqL.of e, ?_, F, ρ, env, _, en, he, r, ha, q⟩
    rw [← r.length]; exact (asgs_len (show asgs ts _ env = some en from ha)).symm
  | non => cases ha
  | bl b => cases ha
  | int b => cases ha
  | str b => cases ha
  | fz b => cases ha
  | dct _ _ _ => cases ha
  | dcT _ _ _ => cases ha

/-! ### statements -/
theorem dss_nil : DSs X W [] sPass := PSs.imp pss_nil fun D σ H ⟨F, ρ, env, S, r, e, h⟩ => (show KE1 X.K H F ρ D.nx env S from h) σ H ρ Xt.refl r e
theorem dss_one {st : Stmt} {m : SM} (h : DS X W st m) : DSs X W [st] m := pss_one h
theorem dss_cons {st : Stmt} {rest : List Stmt} {a b : SM} (h1 : DS X W st a) (h2 : DSs X W rest b) : DSs X W (st :: rest) (sSeq a b) := by
  refine PSs.imp (pss_cons h1 h2) fun D σ H ⟨F, ρ, env, S, r, e, h⟩ => ?_
  refine ⟨F, ρ, env, S, r, e, ?_⟩
  unfold sSeq at h
  match q : a env S, h with
  | some (.nx e1, S1), h => exact fun σ' H' ρ' x r' e' => ⟨F, ρ', e1, S1, r', e', AnsS.xt x h⟩
  | some (.rt v, S1), h => exact h
  | some (.bk e1, S1), h => exact h
  | some (.ct e1, S1), h => exact h
  | some (.ex c e1, S1), h => exact h
theorem ds_pass : DS X W (.Pass pos) sPass := PS.imp ps_pass fun D σ H ⟨F, ρ, env, S, r, e, h⟩ => (show KE1 X.K H F ρ D.nx env S from h) σ H ρ Xt.refl r e
theorem ds_cont : DS X W (.Continue pos) sCont := PS.imp ps_continue fun D σ H ⟨F, ρ, env, S, r, e, h⟩ => (show KE1 X.K H F ρ D.ct env S from h) σ H ρ Xt.refl r e
theorem ds_brk : DS X W (.Break pos) sBrk := PS.imp ps_break fun D σ H ⟨F, ρ, env, S, r, e, h⟩ => (show KE1 X.K H F ρ D.bk env S from h) σ H ρ Xt.refl r e
theorem ds_doc {x : Str} {j : Nat} {pos' : Pos} : DS X W (.Expr (.Constant (.str x) j pos') pos) sPass := PS.imp ps_doc fun D σ H ⟨F, ρ, env, S, r, e, h⟩ => (show KE1 X.K H F ρ D.nx env S from h) σ H ρ Xt.refl r e
theorem ds_expr {e : Expr} {m : EM} (he : DE X W e m) (hs : swapsWith e none pos.line X.env = pure false := by rfl) : DS X W (.Expr e pos) (sExpr m) := by
  refine PS.imp (ps_expr he hs) fun D σ H ⟨F, ρ, env, S, r, e, h⟩ => ?_
  unfold sExpr at h
  exact ⟨F, ρ, env, S, r, e, h.stm.imp (fun d S1 h1 v H1 ρ1 x1 r1 v1 => (show KE1 X.K H F ρ D.nx env S1 from h1) σ H1 ρ1 x1 r1 (e.xt x1)) fun _ _ q => KXS.one e q⟩
theorem ds_ret {e : Expr} {m : EM} (he : DE X W e m) : DS X W (.Return (some e) pos) (sRet m) := by
  refine PS.imp (ps_ret he) fun D σ H ⟨F, ρ, env, S, r, e, h⟩ => ?_
  unfold sRet at h
  exact ⟨F, ρ, env, S, r, e, h.stm.imp (fun d S1 h1 => h1) fun _ _ q => KXS.one e q⟩
theorem ds_set (i : Nat) {x : Str} {e : Expr} {m : EM} {pos' : Pos} (hN : X.N.Nodup) (he : DE X W e m) (hi : X.N[i]? = some x := by rfl) (hx : Loc X.env.scope x := by first | exact Or.inl rfl | exact Or.inr rfl) (hs : swapsWith e (some (.Name x pos')) pos.line X.env = pure false := by rfl)
    (hf : X.fn x = true ∨ X.env.scope.names.lookup x = some .local := by first | exact .inl rfl | exact .inr rfl | assumption) : DS X W (.Assign [.Name x pos'] e pos) (sSet i m) := by
  refine PS.imp (ps_set hN hi hx he hs hf) fun D σ H ⟨F, ρ, env, S, r, e, h⟩ => ?_
  unfold sSet at h
  exact ⟨F, ρ, env, S, r, e, h.stm.imp (fun d S1 h1 v H1 ρ1 x1 r1 v1 => (show KE1 X.K H F ρ D.nx (env.set i (some d)) S1 from h1) _ H1 ρ1 x1 r1 ((e.xt x1).set v1)) fun _ _ q => KXS.one e q⟩
theorem ds_if {c : Expr} {a b : List Stmt} {mc : TM} {ma mb : SM} (hc : DT X W c mc) (ha : DSs X W a ma) (hb : DSs X W b mb) : DS X W (.If c a b pos) (sIf mc ma mb) := by
  refine PS.imp (ps_if hc ha hb) fun D σ H ⟨F, ρ, env, S, r, e, h⟩ => ?_
  unfold sIf at h
  refine ⟨F, ρ, env, S, r, e, h.stm.imp (fun c S1 h1 H1 ρ1 x1 r1 => ?_) fun _ _ q => KXS.one e q⟩
  cases c with
  | true => exact ⟨F, ρ1, env, S1, r1, e.xt x1, AnsS.xt x1 (by simpa using h1)⟩
  | false => exact ⟨F, ρ1, env, S1, r1, e.xt x1, AnsS.xt x1 (by simpa using h1)⟩
theorem ds_asg {tg e : Expr} {t : Tg} {m : EM} (he : DE X W e m) (hg : DG X tg t) (hs : swapsWithSole [tg] e pos.line X.env = pure false := by rfl) (hw : swappedStores [tg] e X.env = pure none := by rfl)
    (h1 : (assignEach [tg] X.env).map (·.2) = [assign tg X.env] := by rfl) : DS X W (.Assign [tg] e pos) (sAsg t m) := by
  refine PS.imp (ps_asg he hg hs hw h1) fun D σ H ⟨F, ρ, env, S, r, e, h⟩ => ?_
  unfold sAsg at h
  refine ⟨F, ρ, env, S, r, e, h.stm.imp (fun d S1 h1 v H1 ρ1 x1 r1 v1 => ?_) fun _ _ q => KXS.one e q⟩
  obtain ⟨x, e1, h2⟩ := h1.opt
  obtain ⟨en, e2, h2⟩ := h2.opt
  cases d with
  | ref i => cases e1
  | p y =>
    cases e1
    exact ⟨F, ρ1, env, x, en, e.xt x1, v1, e2, fun σ' he' _ _ => (show KE1 X.K H F ρ D.nx en S1 from h2) σ' H1 ρ1 x1 r1 he'⟩
theorem ds_par2 (i j : Nat) {x y : Str} {a b : Expr} {ma mb : EM} {px py pt pt2 : Pos} {kt k2 : Nat} (hN : X.N.Nodup) (ha : DE X W a ma) (hb : DE X W b mb) (hc : X.calm = true := by rfl) (hi : X.N[i]? = some x := by rfl) (hj : X.N[j]? = some y := by rfl) (hij : i ≠ j := by decide)
    (hx : X.env.scope.names.lookup x = some .local := by rfl) (hy : X.env.scope.names.lookup y = some .local := by rfl)
    (hs1 : starEach (a :: [b]) X.env = (false, eval a X.env) :: starEach [b] X.env := by rfl) (hs2 : starEach (b :: []) X.env = (false, eval b X.env) :: starEach [] X.env := by rfl)
    (hw : swappedStores [.Tuple [.Name x px, .Name y py] kt pt] (.Tuple [a, b] k2 pt2) X.env = pure (some [x, y]) := by rfl)
    (hs : swapsWithSole [.Tuple [.Name x px, .Name y py] kt pt] (.Tuple [a, b] k2 pt2) pos.line X.env = pure false := by rfl) :
    DS X W (.Assign [.Tuple [.Name x px, .Name y py] kt pt] (.Tuple [a, b] k2 pt2) pos) (sPar2 i j ma mb) := by
  refine PS.imp (ps_par hc hN hi hj hij hx hy (da_cons ha (da_cons hb da_nil hs2) hs1) hw hs) fun D σ H ⟨F, ρ, env, S, r, e, h⟩ => ?_
  unfold sPar2 at h
  refine ⟨F, ρ, env, S, r, e, ?_⟩
  show Ans (bnd (ma env S) fun v S1 => bnd (evs [mb] env S1) fun vs S2 => some (.ok (v :: vs), S2)) _ _
  refine Ans.of_bnd (h.stm.imp (fun d S1 h1 => ?_) fun _ _ q => KXS.one e q)
  show Ans (bnd (bnd (mb env S1) fun v S1 => some (.ok [v], S1)) fun vs S2 => some (.ok (d :: vs), S2)) _ _
  refine Ans.of_bnd (Ans.of_bnd (h1.stm.imp (fun d2 S2 h2 => ?_) fun _ _ q => KXS.one e q))
  show KL1 X.K H F ρ _ [d, d2] S2
  intro vs H' ρ' x r' v
  cases v with
  | cons v1 t => cases t with
    | cons v2 t =>
      cases t
      exact ⟨_, _, rfl, (show KE1 X.K H F ρ D.nx ((env.set i (some d)).set j (some d2)) S2 from h2) _ H' ρ' x r' (((e.xt x).set v1).set v2)⟩
end
end Z

end
section
namespace Z
open PySem PySem.Spec PyProof.Rows L2

/-! ### what is walked -/
def Kp (H0 : Hp) (B0 : Dom) (H : Hp) : Prop := ∀ b o, H0 b = some o → ¬ B0 b → H b = some o
structure ItOk (K : PySem.W.Frag) (H0 : Hp) (B0 : Dom) (J : It) (xs : List P) : Prop where
  go : ∀ i H, Kp H0 B0 H → i < xs.length → J.go i H
  st : ∀ i H, Kp H0 B0 H → xs.length ≤ i → J.stop i H
  yl : ∀ i H x H' p, Kp H0 B0 H → xs[i]? = some p → J.yld i H x H' → Same H H' ∧ ∀ B : Dom, (∀ b, B b → B0 b ∨ H0 b = none) → (∀ b, B b → H b ≠ none) → Rep K H' B p x
def TIx (K : PySem.W.Frag) (mg : Str → Option Value) (W : WX) (m : IM) : TI := fun σ H R => ∃ F ρ env S, Rl K H F ρ S ∧ RE K H F ρ env σ ∧
  Ans (m env S) (fun xs S' => ∀ J H' ρ', Xt H ρ H' ρ' → Rl K H' F ρ' S' → ItOk K H' (Bd F ρ') J xs → R J H') (KX1 K mg H F ρ σ W)
abbrev DI (X : Cx) (W : WX) (tg e : Expr) (m : IM) : Prop := PI X tg e (TIx X.K X.mg W m)

section
variable {K : PySem.W.Frag} {H0 : Hp} {B0 : Dom}
theorem Rep.kp {H : Hp} {B : Dom} {x : P} {v : V} (h : Rep K H0 B0 x v) (k : Kp H0 B0 H) (hb : ∀ b, B b → B0 b ∨ H0 b = none) : Rep K H B x v := h.mono k hb
theorem itok_tup {a : Addr} {vs : List V} {xs : List P} (h : H0 a = some (.tup vs)) (n : ¬ B0 a) (r : RepL K H0 B0 xs vs) : ItOk K H0 B0 (Itt K a) xs := by
  refine ⟨fun i H k hi => ?_, fun i H k hi => ?_, fun i H x H' p k e y => ?_⟩
  · obtain ⟨v, hv, _⟩ := r.get' (i := i) (x := xs[i]) (by simp [hi])
    exact ⟨vs, v, SqT.of (k a _ h n), hv⟩
  · exact ⟨vs, SqT.of (k a _ h n), by rw [← r.length]; exact hi⟩
  · obtain ⟨rfl, y⟩ := y
    obtain ⟨v, hv, rv⟩ := r.get' e
    have := y vs (SqT.of (k a _ h n))
    rw [hv] at this; cases this
    exact ⟨fun _ _ e => e, fun B hb _ => rv.kp k hb⟩
theorem itok_lst {a : Addr} {vs : List V} {xs : List P} (h : H0 a = some (.lst vs)) (n : ¬ B0 a) (r : RepL K H0 B0 xs vs) : ItOk K H0 B0 (Itl K a) xs := by
  refine ⟨fun i H k hi => ?_, fun i H k hi => ?_, fun i H x H' p k e y => ?_⟩
  · obtain ⟨v, hv, _⟩ := r.get' (i := i) (x := xs[i]) (by simp [hi])
    exact ⟨vs, v, SqL.of (k a _ h n), hv⟩
  · exact ⟨vs, SqL.of (k a _ h n), by rw [← r.length]; exact hi⟩
  · obtain ⟨rfl, y⟩ := y
    obtain ⟨v, hv, rv⟩ := r.get' e
    have := y vs (SqL.of (k a _ h n))
    rw [hv] at this; cases this
    exact ⟨fun _ _ e => e, fun B hb _ => rv.kp k hb⟩
theorem fz_seq {H : Hp} {a : Addr} {ns : List Int} (h : FzAt K H0 B0 a ns) (k : Kp H0 B0 H) : SqL K H a (ns.map V.int) := by
  rcases h with ⟨o, e, n⟩ | h
  · exact .inl (.inr ⟨o, k a _ e n⟩)
  · exact .inr h
theorem itok_fz {a : Addr} {ns : List Int} (h : FzAt K H0 B0 a ns) : ItOk K H0 B0 (Itl K a) (ns.map P.int) := by
  refine ⟨fun i H k hi => ?_, fun i H k hi => ?_, fun i H x H' p k e y => ?_⟩
  · rw [List.length_map] at hi
    exact ⟨_, .int ns[i], fz_seq h k, by simp [hi]⟩
  · exact ⟨_, fz_seq h k, by rw [List.length_map] at hi ⊢; exact hi⟩
  · obtain ⟨rfl, y⟩ := y
    have := y _ (fz_seq h k)
    rw [List.getElem?_map] at e this
    cases q : ns[i]? with
    | none => rw [q] at e; cases e
    | some j => rw [q] at e this; cases e; cases this; exact ⟨fun _ _ e => e, fun B hb _ => .int j⟩
theorem rngL_get {lo : Int} {n i : Nat} {p : P} (e : (rngL lo n)[i]? = some p) : p = .int (lo + (i : Nat)) := by
  unfold rngL at e
  rw [List.getElem?_map] at e
  cases q : (List.range n)[i]? with
  | none => rw [q] at e; cases e
  | some j =>
    rw [q] at e; cases e
    have := List.getElem?_eq_some_iff.mp q
    obtain ⟨h1, h2⟩ := this
    rw [List.getElem_range] at h2
    rw [h2]
theorem rngL_length {lo : Int} {n : Nat} : (rngL lo n).length = n := by simp [rngL]
theorem itok_rng {lo : Int} {n : Nat} : ItOk K H0 B0 (Itr lo n) (rngL lo n) := by
  refine ⟨fun i H k hi => ?_, fun i H k hi => ?_, fun i H x H' p k e y => ?_⟩
  · rw [rngL_length] at hi; exact hi
  · rw [rngL_length] at hi; exact hi
  · obtain ⟨rfl, rfl⟩ := y
    rw [rngL_get e]
    exact ⟨fun _ _ e => e, fun B hb _ => .int _⟩
end

section
variable {X : Cx} {W : WX} {tg : Expr}
theorem di_seq {e : Expr} {m : EM} (he : DE X W e m) : DI X W tg e (iSeq m) := by
  refine PI.imp (PI.or (pi_tup he) (pi_list he)) fun σ H R ⟨F, ρ, env, S, r, e, h⟩ => ?_
  unfold iSeq at h
  have h := ans_eq h.bnd
  match q : m env S, h with
  | some (.exc c, S1), h => exact .inl ⟨F, ρ, env, S, r, e, by rw [q]; exact h⟩
  | some (.ok d, S1), h =>
    obtain ⟨_, h⟩ := h
    obtain ⟨x, e1, h⟩ := h.opt
    obtain ⟨xs, e2, h⟩ := h.opt
    cases d with
    | ref i => cases e1
    | p y =>
      cases e1
      cases x with
      | tup ys =>
        cases e2
        refine .inl ⟨F, ρ, env, S, r, e, ?_⟩
        rw [q]
        intro v H1 ρ1 x1 r1 v1
        obtain ⟨a, vs, rfl, g1, g2, g3⟩ := RepA.tup (.rep v1)
        exact ⟨a, rfl, ⟨vs, SqT.of g1⟩, h _ H1 ρ1 x1 r1 (itok_tup g1 g2 g3)⟩
      | lst ys =>
        cases e2
        refine .inr ⟨F, ρ, env, S, r, e, ?_⟩
        rw [q]
        intro v H1 ρ1 x1 r1 v1
        obtain ⟨a, vs, rfl, g1, g2, g3⟩ := Rep.lstI v1
        exact ⟨a, rfl, ⟨vs, SqL.of g1⟩, h _ H1 ρ1 x1 r1 (itok_lst g1 g2 g3)⟩
      | fz ns =>
        cases e2
        refine .inr ⟨F, ρ, env, S, r, e, ?_⟩
        rw [q]
        intro v H1 ρ1 x1 r1 v1
        cases v1 with
        | @fz a _ g => exact ⟨a, rfl, ⟨_, fz_seq g fun _ _ e _ => e⟩, h _ H1 ρ1 x1 r1 (itok_fz g)⟩
      | non => cases e2
      | bl b => cases e2
      | int b => cases e2
      | str b => cases e2
      | dct b => cases e2
      | dcT b => cases e2
theorem di_range1 {a : Expr} {m : EM} {p pos : Pos} (hm : X.mg "range" = none) (ha : DE X W a m) (hg : Gl X "range" := by rfl) (hs : starEach [a] X.env = [(false, eval a X.env)] := by rfl) : DI X W tg (.Call (.Name "range" p) [a] [] pos) (iRange1 m) := by
  refine PI.imp (pi_range1 hg hm (da_cons ha da_nil (by rw [hs]; rfl)) hs) fun σ H R ⟨F, ρ, env, S, r, e, h⟩ => ?_
  unfold iRange1 at h
  refine tax_one ⟨F, ρ, env, S, r, e, h.bnd.imp (fun d S1 h1 v H1 ρ1 x1 r1 v1 => ?_) fun _ _ q => q⟩
  split at h1
  · rename_i j
    cases v1
    split at h1
    · rename_i hj
      exact ⟨j, rfl, (smB_bd hj).1, (smB_bd hj).2, h1 _ H1 ρ1 x1 r1 itok_rng⟩
    · exact h1.elim
  · exact h1.elim
theorem tax_two {K : PySem.W.Frag} {mg : Str → Option Value} {a b : EM} {σ : L2.St} {H : Hp} {Q : List V → Hp → Prop} {F : Dom} {ρ : Rho} {env : Env} {S : List O} (r : Rl K H F ρ S) (e : RE K H F ρ env σ)
    (h : Ans (a env S) (fun d S1 => Ans (b env S1) (fun d2 S2 => ∀ v w H' ρ', Xt H ρ H' ρ' → Rl K H' F ρ' S2 → RV K H' F ρ' d v → RV K H' F ρ' d2 w → Q [v, w] H') (KX1 K mg H F ρ σ W)) (KX1 K mg H F ρ σ W)) : TAx K mg W [a, b] σ H Q := by
  refine ⟨F, ρ, env, S, r, e, ?_⟩
  show Ans (bnd (a env S) fun v S1 => bnd (evs [b] env S1) fun vs S2 => some (.ok (v :: vs), S2)) _ _
  refine Ans.of_bnd (h.imp (fun d S1 h1 => ?_) fun _ _ q => q)
  show Ans (bnd (bnd (b env S1) fun v S1 => some (.ok [v], S1)) fun vs S2 => some (.ok (d :: vs), S2)) _ _
  refine Ans.of_bnd (Ans.of_bnd (h1.imp (fun d2 S2 h2 => ?_) fun _ _ q => q))
  show KL1 K H F ρ _ [d, d2] S2
  intro vs H' ρ' x r' v
  cases v with
  | cons v1 t => cases t with
    | cons v2 t => cases t; exact h2 _ _ H' ρ' x r' v1 v2
theorem di_range2 {a b : Expr} {ma mb : EM} {p pos : Pos} (hm : X.mg "range" = none) (ha : DE X W a ma) (hb : DE X W b mb) (hg : Gl X "range" := by rfl) (hs : starEach [a, b] X.env = [(false, eval a X.env), (false, eval b X.env)] := by rfl) (hs2 : starEach [b] X.env = [(false, eval b X.env)] := by rfl) :
    DI X W tg (.Call (.Name "range" p) [a, b] [] pos) (iRange2 ma mb) := by
  refine PI.imp (pi_range2 hg hm (da_cons ha (da_cons hb da_nil (by rw [hs2]; rfl)) (by rw [hs, hs2])) hs hs2) fun σ H R ⟨F, ρ, env, S, r, e, h⟩ => ?_
  unfold iRange2 at h
  refine tax_two r e (h.bnd.imp (fun d S1 h1 => h1.bnd.imp (fun d2 S2 h2 v w H' ρ' x r' v1 w1 => ?_) fun _ _ q => q) fun _ _ q => q)
  split at h2
  · rename_i i j
    cases v1; cases w1
    split at h2
    · rename_i hj
      exact ⟨i, j, rfl, ⟨(smB_bd hj.1).1, (smB_bd hj.1).2, smB_bd hj.2⟩, h2 _ H' ρ' x r' itok_rng⟩
    · exact h2.elim
  · exact h2.elim

/-! ### for, while -/
theorem ds_for {iter : Expr} {body : List Stmt} {im : IM} {t : Tg} {b : SM} (cl : List Nat) {pos : Pos} (hp : PassesOwn (model X.prog X.w) X.A X.env X.xe) (hi : DI X W tg iter im) (hg : DG X tg t) (hb : DSs X W body b) (hc : X.calm = true := by rfl)
    (hs : ∀ x, foldedSetIterable iter X.env x = pure x := by intro _; rfl) : DS X W (.For tg iter body [] pos) (sFor t im b cl) := by
  refine PS.imp (ps_for hp hc hi hg hb hs) fun D σ H ⟨F, ρ, env, S, r, e, h⟩ => ?_
  unfold sFor at h
  refine ⟨F, ρ, env, S, r, e, h.stm.imp (fun xs S1 h1 J H1 ρ1 x1 r1 it => ?_) fun _ _ q => KXS.one e q⟩
  refine ⟨fun i m σ' H' => m = xs.length - i ∧ i ≤ xs.length ∧ ∃ ρ' env' S', Xt H1 ρ1 H' ρ' ∧ Rl X.K H' F ρ' S' ∧ RE X.K H' F ρ' env' σ' ∧
    AnsS (forL t b cl (xs.drop i) env' S') (KE1 X.K H F ρ D.nx) (KV1 X.K H F ρ D.rt) (KE1 X.K H F ρ D.bk) (KE1 X.K H F ρ D.ct) (KXS X.K X.mg H F ρ W),
    ⟨_, rfl, Nat.zero_le _, ρ1, env, S1, Xt.refl, r1, e.xt x1, h1⟩, ?_⟩
  rintro i m σ' H' ⟨rfl, hi, ρ', env', S', x', r', e', a'⟩
  have k' : Kp H1 (Bd F ρ1) H' := x'.hk
  by_cases hlt : i < xs.length
  · rw [List.drop_eq_getElem_cons hlt] at a'
    obtain ⟨en, e1, a'⟩ := AnsS.opt (show AnsS ((asg t xs[i] env').bind fun e => match b e S' with
      | some (.nx e', S') => forL t b cl (xs.drop (i + 1)) (clr cl e') S'
      | some (.ct e', S') => forL t b cl (xs.drop (i + 1)) (clr cl e') S'
      | some (.bk e', S') => some (.nx e', S')
      | r => r) _ _ _ _ _ from a')
    refine .inr ⟨it.go i H' k' hlt, fun σ2 H2 => i + 1 ≤ xs.length ∧ ∃ ρ' env' S', Xt H1 ρ1 H2 ρ' ∧ Rl X.K H2 F ρ' S' ∧ RE X.K H2 F ρ' env' σ2 ∧
      AnsS (forL t b cl (xs.drop (i + 1)) env' S') (KE1 X.K H F ρ D.nx) (KV1 X.K H F ρ D.rt) (KE1 X.K H F ρ D.bk) (KE1 X.K H F ρ D.ct) (KXS X.K X.mg H F ρ W), fun σ2 H2 q => ⟨xs.length - (i + 1), by omega, rfl, q⟩, fun x H2 y => ?_⟩
    obtain ⟨s2, rp⟩ := it.yl i H' x H2 xs[i] k' (by simp [hlt]) y
    have rx := rp (Bd F ρ') x'.hb r'.al
    have x2 : Xt H' ρ' H2 ρ' := Xt.grow s2
    refine ⟨F, ρ', env', xs[i], en, e'.xt x2, rx, e1, fun σ2 he2 _ _ => ⟨F, ρ', en, S', r'.grow s2, he2, ?_⟩⟩
    have xx : Xt H ρ H2 ρ' := x1.trans (x'.trans x2)
    have again : ∀ {e2 : Env} {S2 : List O}, AnsS (forL t b cl (xs.drop (i + 1)) (clr cl e2) S2) (KE1 X.K H F ρ D.nx) (KV1 X.K H F ρ D.rt) (KE1 X.K H F ρ D.bk) (KE1 X.K H F ρ D.ct) (KXS X.K X.mg H F ρ W) →
        KE1 X.K H2 F ρ' (fun σ2 H2 => i + 1 ≤ xs.length ∧ ∃ ρ' env' S', Xt H1 ρ1 H2 ρ' ∧ Rl X.K H2 F ρ' S' ∧ RE X.K H2 F ρ' env' σ2 ∧
      AnsS (forL t b cl (xs.drop (i + 1)) env' S') (KE1 X.K H F ρ D.nx) (KV1 X.K H F ρ D.rt) (KE1 X.K H F ρ D.bk) (KE1 X.K H F ρ D.ct) (KXS X.K X.mg H F ρ W)) e2 S2 := fun {e2 S2} a2 σ3 H3 ρ3 x3 r3 e3 =>
      ⟨hlt, ρ3, _, S2, (x'.trans x2).trans x3, r3, e3.clr, a2⟩
    match q : b en S', a' with
    | some (.nx e2, S2), a' => exact again a'
    | some (.ct e2, S2), a' => exact again a'
    | some (.bk e2, S2), a' => exact KE1.xt xx a'
    | some (.rt v, S2), a' => exact KV1.xt xx a'
    | some (.ex c e2, S2), a' => exact KXS.xt xx a'
  · have hd : xs.drop i = [] := List.drop_eq_nil_of_le (Nat.le_of_not_lt hlt)
    rw [hd] at a'
    exact .inl ⟨it.st i H' k' (Nat.le_of_not_lt hlt), (show KE1 X.K H F ρ D.nx env' S' from a') σ' H' ρ' (x1.trans x') r' e'⟩
theorem ds_while {c : Expr} {body : List Stmt} {tm : TM} {b : SM} (n : Nat) (cl : List Nat) {pos : Pos} (hp : PassesOwn (model X.prog X.w) X.A X.env X.xe) (hc : DT X W c tm) (hb : DSs X W body b) : DS X W (.While c body [] pos) (sWhile n tm b cl) := by
  refine PS.imp (ps_while hp hc hb) fun D σ H ⟨F, ρ, env, S, r, e, h⟩ => ?_
  refine ⟨fun m σ' H' => ∃ ρ' env' S', Xt H ρ H' ρ' ∧ Rl X.K H' F ρ' S' ∧ RE X.K H' F ρ' env' σ' ∧
    AnsS (whL tm b cl m env' S') (KE1 X.K H F ρ D.nx) (KV1 X.K H F ρ D.rt) (KE1 X.K H F ρ D.bk) (KE1 X.K H F ρ D.ct) (KXS X.K X.mg H F ρ W), ⟨n, ρ, env, S, Xt.refl, r, e, h⟩, ?_⟩
  rintro m σ' H' ⟨ρ', env', S', x', r', e', a'⟩
  cases m with
  | zero => exact a'.elim
  | succ m =>
    refine ⟨F, ρ', env', S', r', e', (AnsS.stm (show AnsS (stm env' (tm env' S') fun c S1 => if c = true then
      match b env' S1 with
      | some (.nx e', S') => whL tm b cl m (clr cl e') S'
      | some (.ct e', S') => whL tm b cl m (clr cl e') S'
      | some (.bk e', S') => some (.nx e', S')
      | r => r
      else some (.nx env', S1)) _ _ _ _ _ from a')).imp (fun c S1 h1 H1 ρ1 x1 r1 => ?_) fun _ _ q => KXS.one e' (KXS.xt x' q)⟩
    cases c with
    | false =>
      rw [if_neg Bool.false_ne_true] at h1
      rw [if_neg Bool.false_ne_true]
      exact (show KE1 X.K H F ρ D.nx env' S1 from h1) σ' H1 ρ1 (x'.trans x1) r1 (e'.xt x1)
    | true =>
      rw [if_pos rfl] at h1
      rw [if_pos rfl]
      refine ⟨fun σ2 H2 => ∃ ρ' env' S', Xt H ρ H2 ρ' ∧ Rl X.K H2 F ρ' S' ∧ RE X.K H2 F ρ' env' σ2 ∧
        AnsS (whL tm b cl m env' S') (KE1 X.K H F ρ D.nx) (KV1 X.K H F ρ D.rt) (KE1 X.K H F ρ D.bk) (KE1 X.K H F ρ D.ct) (KXS X.K X.mg H F ρ W), fun σ2 H2 q => ⟨m, Nat.lt_succ_self m, q⟩, F, ρ1, env', S1, r1, e'.xt x1, ?_⟩
      have again : ∀ {e2 : Env} {S2 : List O}, AnsS (whL tm b cl m (clr cl e2) S2) (KE1 X.K H F ρ D.nx) (KV1 X.K H F ρ D.rt) (KE1 X.K H F ρ D.bk) (KE1 X.K H F ρ D.ct) (KXS X.K X.mg H F ρ W) →
          KE1 X.K H1 F ρ1 (fun σ2 H2 => ∃ ρ' env' S', Xt H ρ H2 ρ' ∧ Rl X.K H2 F ρ' S' ∧ RE X.K H2 F ρ' env' σ2 ∧
        AnsS (whL tm b cl m env' S') (KE1 X.K H F ρ D.nx) (KV1 X.K H F ρ D.rt) (KE1 X.K H F ρ D.bk) (KE1 X.K H F ρ D.ct) (KXS X.K X.mg H F ρ W)) e2 S2 := fun {e2 S2} a2 σ3 H3 ρ3 x3 r3 e3 =>
        ⟨ρ3, _, S2, (x'.trans x1).trans x3, r3, e3.clr, a2⟩
      have xx := x'.trans x1
      match q : b env' S1, h1 with
      | some (.nx e2, S2), h1 => exact again h1
      | some (.ct e2, S2), h1 => exact again h1
      | some (.bk e2, S2), h1 => exact KE1.xt xx h1
      | some (.rt v, S2), h1 => exact KV1.xt xx h1
      | some (.ex c e2, S2), h1 => exact KXS.xt xx h1

/-! ### a comprehension -/
theorem wipe_get {σ : L2.St} : ∀ {vs : List Nat} {i : Nat}, i ∈ vs → i < σ.length → (L2.wipe σ vs)[i]? = some none
  | [], _, h, _ => by simp at h
  | v :: vs, i, h, hl => by
    unfold L2.wipe
    by_cases e : v = i
    · subst e
      exact List.getElem?_set_self (by rw [wipe_length]; exact hl)
    · rw [List.getElem?_set_ne e]
      rcases List.mem_cons.mp h with z | z
      · exact absurd z.symm e
      · exact wipe_get z hl
theorem wipe_agree {σ σ2 : L2.St} {vs : List Nat} (hl : σ2.length = (L2.wipe σ vs).length) (h : ∀ i : Nat, i ∉ vs → σ2[i]? = (L2.wipe σ vs)[i]?) : L2.wipe σ2 vs = L2.wipe σ vs := by
  apply List.ext_getElem?
  intro i
  have hl' : σ2.length = σ.length := by rw [hl, wipe_length]
  by_cases hi : i ∈ vs
  · by_cases hlt : i < σ.length
    · rw [wipe_get hi hlt, wipe_get hi (by rw [hl']; exact hlt)]
    · rw [List.getElem?_eq_none (by rw [wipe_length, hl']; omega), List.getElem?_eq_none (by rw [wipe_length]; omega)]
  · rw [wipe_out hi]; exact h i hi
def W0 : WX := fun _ _ _ _ => False
theorem RO.chg {K : PySem.W.Frag} {H H' : Hp} {F F' : Dom} {ρ : Rho} {o : O} {a : Addr} (hk : ∀ b u, H b = some u → ¬ Bd F ρ b → H' b = some u) (hb : ∀ b, Bd F' ρ b → Bd F ρ b ∨ H b = none) (e : ∀ u, H a = some u → H' a = some u) (h : RO K H F ρ o a) : RO K H' F' ρ o a := by
  cases o with
  | gone => exact h
  | pl xs => obtain ⟨vs, h1, h2⟩ := h; exact ⟨vs, e _ h1, h2.mono hk hb⟩
  | pd xs => obtain ⟨vs, h1, h2⟩ := h; exact ⟨vs, e _ h1, h2.mono hk hb⟩
  | pdT xs => obtain ⟨vs, h1, h2⟩ := h; exact ⟨vs, e _ h1, h2.mono hk hb⟩
  | rl ks =>
    obtain ⟨vs, h1, h2⟩ := h
    refine ⟨vs, e _ h1, ?_⟩
    clear h1
    induction ks generalizing vs with
    | nil => cases h2; exact .nil
    | cons k ks ih => cases h2 with
      | cons a b => exact .cons a (ih _ b)
theorem Rl.weakF {K : PySem.W.Frag} {H : Hp} {F F' : Dom} {ρ : Rho} {S : List O} (h : ∀ b, F b → F' b) (r : Rl K H F' ρ S) : Rl K H F ρ S := by
  have hB : ∀ b, Bd F ρ b → Bd F' ρ b := fun b q => q.elim (fun z => .inl (h b z)) fun z => .inr z
  exact ⟨r.len, r.nd, fun b q => r.al b (hB b q), fun i a e q => r.ds i a e (h a q), fun i a o h1 h2 => (r.ob i a o h1 h2).chg (fun _ _ e _ => e) (fun b q => .inl (hB b q)) fun _ e => e, r.go⟩
theorem RE.to {K : PySem.W.Frag} {H H' : Hp} {F F' : Dom} {ρ ρ' : Rho} {env : Env} {σ : L2.St} (x : Xt H ρ H' ρ') (hb : ∀ b, Bd F' ρ' b → Bd F ρ b ∨ H b = none) (h : RE K H F ρ env σ) : RE K H' F' ρ' env σ := by
  refine ⟨h.len, fun i d e => ?_⟩
  obtain ⟨v, h1, h2⟩ := h.get i d e
  refine ⟨v, h1, ?_⟩
  cases d with
  | p y => exact Rep.mono x.hk hb h2
  | ref j => exact RV.xt (F := F) x h2
/-- the reading of the block, for any source -/
theorem lc_read {K : PySem.W.Frag} {mg : Str → Option Value} {im : IM} {t : Tg} {tm : TM} {em : EM} {vs : List Nat} {σ : L2.St} {H : Hp} {Q : VK} (hsl : ∀ i ∈ t.slots, i ∈ vs) (h : TEx K mg W (mLc vs t im tm em) σ H Q) :
    tLc (TIx K mg W im) (TGx K t) (TTx K mg W0 tm) (TEx K mg W0 em) vs σ H Q := by
  obtain ⟨F, ρ, env, S, r, e, h⟩ := h
  unfold mLc at h
  refine ⟨F, ρ, env, S, r, e, h.bnd.imp (fun xs S1 h1 J H1 ρ1 x1 r1 it D nD => ?_) fun _ _ q => q⟩
  have nBD : ¬ Bd F ρ1 D := fun q => r1.al D q nD
  refine ⟨fun i m H' => m = xs.length - i ∧ i ≤ xs.length ∧ ∃ ρ' S' acc ws, Xt H1 ρ1 H' ρ' ∧ some D ∉ ρ' ∧ Rl K H' (fun b => F b ∨ b = D) ρ' S' ∧ H' D = some (.lst ws) ∧ RepL K H' (Bd (fun b => F b ∨ b = D) ρ') acc ws ∧
    Ans (lcL t tm em (clr vs env) (xs.drop i) acc S') (KV1 K H F ρ Q) (KX1 K mg H F ρ σ W), ⟨_, rfl, Nat.zero_le _, ρ1, S1, [], [], ?_, ?_, ?_, upd_same, .nil, h1⟩, ?_⟩
  · exact Xt.grow (Same.upd nD)
  · exact fun q => nBD (.inr q)
  · have s := Same.upd (o := .lst []) nD
    refine ⟨r1.len, r1.nd, fun b q => ?_, fun i a ha q => ?_, fun i a o h1 h2 => ?_, r1.go⟩
    · rcases q with (q | rfl) | q
      · exact (r1.grow s).al b (.inl q)
      · rw [upd_same]; simp
      · exact (r1.grow s).al b (.inr q)
    · rcases q with q | rfl
      · exact r1.ds i a ha q
      · exact nBD (.inr (mem_rho.mpr ⟨i, ha⟩))
    · refine (r1.ob i a o h1 h2).chg (fun b u e _ => s b u e) (fun b q => ?_) fun u e => s a u e
      rcases q with (q | rfl) | q
      · exact .inl (.inl q)
      · exact .inr nD
      · exact .inl (.inr q)
  · rintro i m H' ⟨rfl, hi, ρ', S', acc, ws, x', nD', r', hD', ra', a'⟩
    have k' : Kp H1 (Bd F ρ1) H' := x'.hk
    have hbF : ∀ {H2 : Hp} {ρ2 : Rho}, Xt H1 ρ1 H2 ρ2 → ∀ b, Bd (fun b => F b ∨ b = D) ρ2 b → Bd F ρ1 b ∨ H1 b = none := fun x b q => by
      rcases q with (q | rfl) | q
      · exact .inl (.inl q)
      · exact .inr nD
      · exact x.hb (F := F) b (.inr q)
    by_cases hlt : i < xs.length
    · rw [List.drop_eq_getElem_cons hlt] at a'
      obtain ⟨en, e1, a'⟩ := Ans.opt (show Ans ((asg t xs[i] (clr vs env)).bind fun en => match tm en S' with
        | some (.ok true, S1) => match em en S1 with
          | some (.ok (.p y), S2) => if acc.length < sizeLine then lcL t tm em (clr vs env) (xs.drop (i + 1)) (acc ++ [y]) S2 else none
          | _ => none
        | some (.ok false, S1) => lcL t tm em (clr vs env) (xs.drop (i + 1)) acc S1
        | _ => none) _ _ from a')
      refine .inr ⟨it.go i H' k' hlt, fun H2 => i + 1 ≤ xs.length ∧ ∃ ρ' S' acc ws, Xt H1 ρ1 H2 ρ' ∧ some D ∉ ρ' ∧ Rl K H2 (fun b => F b ∨ b = D) ρ' S' ∧ H2 D = some (.lst ws) ∧ RepL K H2 (Bd (fun b => F b ∨ b = D) ρ') acc ws ∧
        Ans (lcL t tm em (clr vs env) (xs.drop (i + 1)) acc S') (KV1 K H F ρ Q) (KX1 K mg H F ρ σ W), fun H2 q => ⟨xs.length - (i + 1), by omega, rfl, q⟩, fun x H2 y => ?_⟩
      obtain ⟨s2, rp⟩ := it.yl i H' x H2 xs[i] k' (by simp [hlt]) y
      have x2 : Xt H' ρ' H2 ρ' := Xt.grow s2
      have rx := rp (Bd (fun b => F b ∨ b = D) ρ') (hbF x') r'.al
      have xx := x'.trans x2
      refine ⟨fun b => F b ∨ b = D, ρ', clr vs env, xs[i], en, ((e.xt x1).wipe).to xx (hbF xx), rx, e1, fun σ2 he2 hl2 ho2 => ⟨wipe_agree hl2 fun j hj => ho2 j fun z => hj (hsl j z), ?_⟩⟩
      have r2 := r'.grow s2
      have hD2 := s2 D _ hD'
      have ra2 := ra'.xt x2
      refine ⟨fun b => F b ∨ b = D, ρ', en, S', r2, he2, ?_⟩
      match q : tm en S', a' with
      | some (.ok false, S3), a' =>
        intro H3 ρ3 x3 r3
        rw [if_neg Bool.false_ne_true]
        have hD3 := x3.keep D _ hD2 nD'
        exact ⟨hlt, ρ3, S3, acc, ws, xx.trans x3, x3.out hD2 nD', r3, hD3, ra2.xt x3, a'⟩
      | some (.ok true, S3), a' =>
        intro H3 ρ3 x3 r3
        rw [if_pos rfl]
        have hD3 := x3.keep D _ hD2 nD'
        have nD3 := x3.out hD2 nD'
        refine ⟨fun b => F b ∨ b = D, ρ3, en, S3, r3, he2.xt x3, ?_⟩
        have a' : Ans (match em en S3 with
          | some (.ok (.p y), S2) => if acc.length < sizeLine then lcL t tm em (clr vs env) (xs.drop (i + 1)) (acc ++ [y]) S2 else none
          | _ => none) (KV1 K H F ρ Q) (KX1 K mg H F ρ σ W) := a'
        match q2 : em en S3, a' with
        | some (.ok (.p y), S4), a' =>
          intro v4 H4 ρ4 x4 r4 v4r
          dsimp only at a'
          split at a'
          · rename_i hsz
            have hD4 := x4.keep D _ hD3 nD3
            have nD4 := x4.out hD3 nD3
            have x14 := (xx.trans x3).trans x4
            have ra4 := (ra2.xt x3).xt x4
            refine ⟨ws, hD4, by rw [← ra'.length]; exact hsz, hlt, ρ4, S4, acc ++ [y], ws ++ [v4], ?_, nD4, ?_, upd_same, ?_, a'⟩
            · refine ⟨fun b u eb nb => ?_, fun b nb => ?_, x14.len, x14.old⟩
              · rw [upd_ne (ne_of_none eb nD)]; exact x14.keep b u eb nb
              · by_cases z : b = D
                · rw [z, upd_same]; simp
                · rw [upd_ne z]; exact x14.stay b nb
            · refine ⟨r4.len, r4.nd, fun b qb => ?_, r4.ds, fun j a o h1 h2 => ?_, r4.go⟩
              · by_cases z : b = D
                · rw [z, upd_same]; simp
                · rw [upd_ne z]; exact r4.al b qb
              · have na : a ≠ D := fun z => r4.ds j a h1 (.inr z)
                refine (r4.ob j a o h1 h2).chg (fun b u eb nb => ?_) (fun b qb => .inl qb) fun u ea => ?_
                · rw [upd_ne (fun z => nb (.inl (.inr z)))]; exact eb
                · rw [upd_ne na]; exact ea
            · have hk : ∀ b u, H4 b = some u → ¬ Bd (fun b => F b ∨ b = D) ρ4 b → upd H4 D (.lst (ws ++ [v4])) b = some u := fun b u eb nb => by
                rw [upd_ne (fun z => nb (.inl (.inr z)))]; exact eb
              exact (ra4.mono hk fun b qb => .inl qb).append (.cons (Rep.mono hk (fun b qb => .inl qb) v4r) .nil)
          · exact a'.elim
    · have hd : xs.drop i = [] := List.drop_eq_nil_of_le (Nat.le_of_not_lt hlt)
      rw [hd] at a'
      refine .inl ⟨it.st i H' k' (Nat.le_of_not_lt hlt), (show KV1 K H F ρ Q (.p (.lst acc)) S' from a') (.ref D) H' ρ' (x1.trans x') (r'.weakF fun b q => .inl q) (.lst hD' (fun q => ?_) (ra'.mono (fun _ _ e _ => e) fun b q => .inl (q.elim (fun z => .inl (.inl z)) fun z => .inr z)))⟩
      rcases q with q | q
      · exact nBD (.inl q)
      · exact nD' q
theorem dts_nil {X : Cx} {W : WX} : PTs X [] (TTx X.K X.mg W tYesM) := PTs.imp pts_nil fun σ H Q ⟨F, ρ, env, S, r, e, h⟩ => (show KB1 X.K H F ρ Q true S from h) H ρ Xt.refl r
theorem dts_one {X : Cx} {W : WX} {c : Expr} {m : TM} (h : DT X W c m) : PTs X [c] (TTx X.K X.mg W m) := pts_one h
theorem de_lc {elt it : Expr} {ifs : List Expr} {scope : Scope} (own : List (Str × Nat)) {pos : Pos} {im : IM} {t : Tg} {tm : TM} {em : EM} (hN : X.N.Nodup) (hi : DI X W tg it im) (ok : BlkOk X.N X.env.scope scope own)
    (hg : ∀ (s : Shared) (H : Hp) (C : Addr) (cl : List (Str × Addr)) (fp : List Addr), DG (X.blk s H scope (compEnvC scope cl C X.env) fp) tg t)
    (ht : ∀ (s : Shared) (H : Hp) (C : Addr) (cl : List (Str × Addr)) (fp : List Addr), PTs (X.blk s H scope (compEnvC scope cl C X.env) fp) ifs (TTx X.K X.mg W0 tm))
    (he : ∀ (s : Shared) (H : Hp) (C : Addr) (cl : List (Str × Addr)) (fp : List Addr), DE (X.blk s H scope (compEnvC scope cl C X.env) fp) W0 elt em)
    (hsl : ∀ i ∈ t.slots, i ∈ own.map (·.2) := by decide) (hc : X.calm = true := by rfl) (hs : ∀ x, foldedSetIterable it X.env x = pure x := by intro _; rfl) :
    DE X W (.ListComp elt [⟨tg, it, ifs, 0⟩] scope pos) (mLc (own.map (·.2)) t im tm em) :=
  PE.imp (pe_lc hc hN hi ok hg ht he hs) fun σ H Q h => lc_read hsl h
theorem ds_setLc (i : Nat) {y : Str} {py : Pos} {elt it : Expr} {ifs : List Expr} {scope : Scope} (own : List (Str × Nat)) {pos spos : Pos} {im : IM} {t : Tg} {tm : TM} {em : EM} (hN : X.N.Nodup) (hi : DI X W tg it im) (ok : BlkOk X.N X.env.scope scope own)
    (hg : ∀ (s : Shared) (H : Hp) (C : Addr) (cl : List (Str × Addr)) (fp : List Addr), DG (X.blk s H scope (compEnvC scope cl C X.env) fp) tg t)
    (ht : ∀ (s : Shared) (H : Hp) (C : Addr) (cl : List (Str × Addr)) (fp : List Addr), PTs (X.blk s H scope (compEnvC scope cl C X.env) fp) ifs (TTx X.K X.mg W0 tm))
    (he : ∀ (s : Shared) (H : Hp) (C : Addr) (cl : List (Str × Addr)) (fp : List Addr), DE (X.blk s H scope (compEnvC scope cl C X.env) fp) W0 elt em)
    (hsw : swapsWith (.ListComp elt [⟨tg, it, ifs, 0⟩] scope pos) (some (.Name y py)) spos.line X.env = pure true)
    (hsl : ∀ i ∈ t.slots, i ∈ own.map (·.2) := by decide) (hy : X.N[i]? = some y := by rfl) (hyl : X.env.scope.names.lookup y = some .local := by rfl) (hc : X.calm = true := by rfl) (hs : ∀ x, foldedSetIterable it X.env x = pure x := by intro _; rfl) :
    DS X W (.Assign [.Name y py] (.ListComp elt [⟨tg, it, ifs, 0⟩] scope pos) spos) (sSet i (mLc (own.map (·.2)) t im tm em)) := by
  refine PS.imp (ps_setLc (g := TGx X.K t) (te := TEx X.K X.mg W0 em) hc hN hy hyl hsw hi ok hg ht he hs) fun D σ H ⟨F, ρ, env, S, r, e, h⟩ => ?_
  unfold sSet at h
  exact lc_read hsl ⟨F, ρ, env, S, r, e, h.stm.imp (fun d S1 h1 v H1 ρ1 x1 r1 v1 => (show KE1 X.K H F ρ D.nx (env.set i (some d)) S1 from h1) _ H1 ρ1 x1 r1 ((e.xt x1).set v1)) fun _ _ q => KXS.one e q⟩
end
end Z

end
section
namespace Z
open PySem PySem.Spec PyProof.Rows L2

/-! ### dicts -/
section
variable {K : PySem.W.Frag} {H : Hp} {B : Dom}
theorem RepD.any {k : Key} : ∀ {xs : List (Key × P)} {vs : List (Key × V)}, RepD K H B xs vs → (vs.any fun kv => decide (kv.1 = k)) = xs.any fun kv => decide (kv.1 = k)
  | _, _, .nil => rfl
  | _, _, .cons h t => by rw [List.any_cons, List.any_cons, RepD.any t]
theorem RepD.repl {k : Key} {x : P} {v : V} (hx : Rep K H B x v) : ∀ {xs : List (Key × P)} {vs : List (Key × V)}, RepD K H B xs vs → RepD K H B (xs.map fun kv => if kv.1 = k then (kv.1, x) else kv) (vs.map fun kv => if kv.1 = k then (kv.1, v) else kv)
  | _, _, .nil => .nil
  | _, _, .cons (k := j) h t => by
    rw [List.map_cons, List.map_cons]
    by_cases e : j = k
    · rw [if_pos e, if_pos e]; exact .cons hx (RepD.repl hx t)
    · rw [if_neg e, if_neg e]; exact .cons h (RepD.repl hx t)
theorem RepD.append : ∀ {xs ys : List (Key × P)} {vs ws : List (Key × V)}, RepD K H B xs vs → RepD K H B ys ws → RepD K H B (xs ++ ys) (vs ++ ws)
  | _, _, _, _, .nil, s => s
  | _, _, _, _, .cons h t, s => .cons h (RepD.append t s)
theorem RepD.put {k : Key} {x : P} {v : V} {xs : List (Key × P)} {vs : List (Key × V)} (h : RepD K H B xs vs) (hx : Rep K H B x v) : RepD K H B (putP xs k x) (putK vs k v) := by
  unfold putP putK
  rw [h.any]
  split
  · exact h.repl hx
  · exact h.append (.cons hx .nil)
theorem RepD.length : ∀ {xs : List (Key × P)} {vs : List (Key × V)}, RepD K H B xs vs → xs.length = vs.length
  | _, _, .nil => rfl
  | _, _, .cons _ t => by rw [List.length_cons, List.length_cons, RepD.length t]
theorem RepD.val {k : Key} : ∀ {xs : List (Key × P)} {vs : List (Key × V)}, RepD K H B xs vs → (valP xs k = none ∧ valV vs k = none) ∨ ∃ x v, valP xs k = some x ∧ valV vs k = some v ∧ Rep K H B x v
  | _, _, .nil => .inl ⟨rfl, rfl⟩
  | _, _, .cons (k := j) (x := x) (v := v) (xs := xs) (vs := vs) h t => by
    by_cases e : j = k
    · exact .inr ⟨x, v, by simp [valP, List.find?_cons, e], by simp [valV, List.find?_cons, e], h⟩
    · have e1 : valP ((j, x) :: xs) k = valP xs k := by simp [valP, List.find?_cons, e]
      have e2 : valV ((j, v) :: vs) k = valV vs k := by simp [valV, List.find?_cons, e]
      rw [e1, e2]
      exact RepD.val t
theorem key_rep {x : P} {v : V} {k : Key} (h : Rep K H B x v) (e : keyOf x = some k) : v = kV k := by
  cases h <;> first | (cases e; rfl) | cases e
end
section
variable {X : Cx} {W : WX} {pos : Pos}
/-- xs[i] = e -/
theorem ds_sub {o i e : Expr} {mo mi me : EM} {st : Stmt} (h : PS X st (tAsg (TEx X.K X.mg W me) (gSub (TEx X.K X.mg W mo) (TEx X.K X.mg W mi) rSetL))) : DS X W st (mSub mo mi me) := by
  refine PS.imp h fun D σ H ⟨F, ρ, env, S, r, e, h⟩ => ?_
  unfold mSub at h
  refine ⟨F, ρ, env, S, r, e, h.stm.imp (fun du S1 h1 v H1 ρ1 x1 r1 v1 => ?_) fun _ _ q => KXS.one e q⟩
  refine ⟨F, ρ1, env, S1, r1, e.xt x1, h1.stm.imp (fun dv S2 h2 o H2 ρ2 x2 r2 o2 => ?_) fun _ _ q => KXS.one (e.xt x1) (KXS.xt x1 q)⟩
  refine ⟨F, ρ2, env, S2, r2, (e.xt x1).xt x2, h2.stm.imp (fun dk S3 h3 kk H3 ρ3 x3 r3 k3 => ?_) fun _ _ q => KXS.one ((e.xt x1).xt x2) (KXS.xt (x1.trans x2) q)⟩
  split at h3
  · rename_i rr n x
    split at h3
    · rename_i xs q
      obtain ⟨j, e1, h3⟩ := h3.opt
      obtain ⟨a, ha, rfl, vs, g1, g2⟩ := thing_lst r3 (o2.xt x3) q (by simp)
      cases k3
      have y := write_xt (H := H3) (ho := .lst (vs.set j v)) ha
      have xx := (x1.trans x2).trans x3
      refine ⟨a, vs, n, j, rfl, rfl, g1, by rw [← g2.length]; exact e1, ?_⟩
      exact (show KE1 X.K H F ρ D.nx env (S3.set rr (.pl (xs.set j x))) from h3) σ _ ρ3 (xx.trans y) (write_rl r3 ha ⟨_, upd_same, (g2.xt y).set j (Rep.xt ((x2.trans x3).trans y) v1)⟩) (e.xt (xx.trans y))
    · exact h3.elim
  · exact h3.elim
/-- d[k] = e -/
theorem ds_put {o i value : Expr} {mo mi me : EM} {pos' : Pos} (hu : X.A.units + 1 < cLine) (ho : DE X W o mo) (hi : DE X W i mi) (hv : DE X W value me) (hs : swapsWith value (some (.Subscript o i pos')) pos.line X.env = pure false := by rfl) : DS X W (.Assign [.Subscript o i pos'] value pos) (mPut mo mi me) := by
  refine PS.imp (ps_dput hu ho hi hv hs) fun D σ H ⟨F, ρ, env, S, r, e, h⟩ => ?_
  unfold mPut at h
  refine ⟨F, ρ, env, S, r, e, h.stm.imp (fun du S1 h1 v H1 ρ1 x1 r1 v1 => ?_) fun _ _ q => KXS.one e q⟩
  refine ⟨F, ρ1, env, S1, r1, e.xt x1, h1.stm.imp (fun dv S2 h2 o H2 ρ2 x2 r2 o2 => ?_) fun _ _ q => KXS.one (e.xt x1) (KXS.xt x1 q)⟩
  refine ⟨F, ρ2, env, S2, r2, (e.xt x1).xt x2, h2.stm.imp (fun dk S3 h3 kk H3 ρ3 x3 r3 k3 => ?_) fun _ _ q => KXS.one ((e.xt x1).xt x2) (KXS.xt (x1.trans x2) q)⟩
  split at h3
  · rename_i rr kp x
    split at h3
    · rename_i kvs q
      obtain ⟨k, e1, h3⟩ := h3.opt
      split at h3
      · rename_i hl
        obtain ⟨a, ha, rfl, vs, g1, g2⟩ := thing_lst r3 (o2.xt x3) q (by simp)
        have ek := key_rep k3 e1
        subst ek
        have y := write_xt (H := H3) (ho := .dK (putK vs k v)) ha
        have xx := (x1.trans x2).trans x3
        refine ⟨a, _, rfl, DPut.k g1 (by rw [← g2.length]; exact hl), ?_⟩
        exact (show KE1 X.K H F ρ D.nx env (S3.set rr (.pd (putP kvs k x))) from h3) σ _ ρ3 (xx.trans y) (write_rl r3 ha ⟨_, upd_same, (g2.xt y).put (Rep.xt ((x2.trans x3).trans y) v1)⟩) (e.xt (xx.trans y))
      · exact h3.elim
    · exact h3.elim
  · exact h3.elim
end

/-! ### calls of defs -/
def spF (K : PySem.W.Frag) (mg : Str → Option Value) (f : Fn) (n : Nat) : Sp := fun vs H Q E => vs.length = n ∧ ∃ F ρ S ds, Rl K H F ρ S ∧ RVs K H F ρ ds vs ∧
  Ans (f ds S) (fun d S' => ∀ v H', Xt H ρ H' ρ → Rl K H' F ρ S' → RV K H' F ρ d v → Q v H') (fun c S' => ∀ C H', mg c = some (.ref C) → Xt H ρ H' ρ → Rl K H' F ρ S' → E (.ref C) none H')
/-- a def that may be called -/
def Cal (P : Program) (w : World) (K : PySem.W.Frag) (mg : Str → Option Value) (base : Heap) (k : Nat) (x : Str) (n : Nat) (f : Fn) : Prop :=
  ∃ (fa : Addr) (fd : FuncData) (ps : List Str), FnOk P w K mg base (L2.CX P w) k fa fd ps (spF K mg f n) ∧ mg x = some (.ref fa) ∧ PySem.W.keepIn K (.ref fa) = true ∧ Binds K fd ps []
theorem Cal.mono {P : Program} {w : World} {K : PySem.W.Frag} {mg : Str → Option Value} {base : Heap} {j k : Nat} {x : Str} {n : Nat} {f : Fn} (c : Cal P w K mg base j x n f) (h : j ≤ k) : Cal P w K mg base k x n f :=
  let ⟨fa, fd, ps, h1, h2⟩ := c
  ⟨fa, fd, ps, h1.mono h, h2⟩
theorem Cal.none {P : Program} {w : World} {K : PySem.W.Frag} {mg : Str → Option Value} {base : Heap} {k : Nat} {x : Str} {n : Nat} {fa : Addr} {fd : FuncData} {ps : List Str} (hl : ps.length = n) (h2 : mg x = some (.ref fa)) (h3 : PySem.W.keepIn K (.ref fa) = true) (h4 : Binds K fd ps []) :
    Cal P w K mg base k x n (fun _ _ => Option.none) :=
  ⟨fa, fd, ps, ⟨fun vs H Q E h => by rw [hl]; exact h.1, fun _ _ _ _ _ _ _ _ _ _ _ _ _ h => by obtain ⟨_, _, _, _, _, _, _, z⟩ := h; exact z.elim⟩, h2, h3, h4⟩

section
variable {K : PySem.W.Frag} {H H' : Hp} {F : Dom} {ρ : Rho} {S : List O}
theorem gets_all {S : List O} : ∀ {rs : List Nat} {os : List O}, gets S rs = some os → os.length = rs.length ∧ ∀ (j i : Nat), rs[j]? = some i → ∃ o, S[i]? = some o ∧ os[j]? = some o ∧ o.closed = true
  | [], os, h => by cases h; exact ⟨rfl, fun j i e => by simp at e⟩
  | r :: rs, os, h => by
    unfold gets at h
    obtain ⟨o, e1, h⟩ := Option.bind_eq_some_iff.mp h
    split at h
    · rename_i hc
      obtain ⟨os', e2, h⟩ := Option.bind_eq_some_iff.mp h
      cases h
      obtain ⟨h1, h2⟩ := gets_all e2
      refine ⟨by simp [h1], fun j i e => ?_⟩
      cases j with
      | zero => cases e; exact ⟨o, e1, rfl, hc⟩
      | succ j => exact h2 j i e
    · cases h
theorem puts_len : ∀ {rs : List Nat} {os : List O} {S : List O}, (puts S rs os).length = S.length
  | [], [], _ => rfl
  | [], _ :: _, _ => rfl
  | _ :: _, [], _ => rfl
  | r :: rs, o :: os, S => by
    show (puts (S.set r o) rs os).length = S.length
    rw [puts_len, List.length_set]
theorem puts_out : ∀ {rs : List Nat} {os : List O} {S : List O} {i : Nat}, i ∉ rs → (puts S rs os)[i]? = S[i]?
  | [], [], _, _, _ => rfl
  | [], _ :: _, _, _, _ => rfl
  | _ :: _, [], _, _, _ => rfl
  | r :: rs, o :: os, S, i, h => by
    show (puts (S.set r o) rs os)[i]? = S[i]?
    rw [List.mem_cons, not_or] at h
    rw [puts_out h.2, List.getElem?_set_ne (Ne.symm h.1)]
theorem nodupB_of : ∀ {rs : List Nat}, nodupB rs = true → rs.Nodup
  | [], _ => List.nodup_nil
  | r :: rs, h => by
    unfold nodupB at h
    simp only [Bool.and_eq_true, Bool.not_eq_true', List.contains_eq_mem, decide_eq_false_iff_not] at h
    exact List.nodup_cons.mpr ⟨h.1, nodupB_of h.2⟩
theorem puts_in : ∀ {rs : List Nat} {os : List O} {S : List O} {i j : Nat} {o : O}, rs.Nodup → rs[j]? = some i → os[j]? = some o → i < S.length → (puts S rs os)[i]? = some o
  | [], _, _, _, _, _, _, h, _, _ => by simp at h
  | _ :: _, [], _, _, _, _, _, _, h, _ => by simp at h
  | r :: rs, q :: os, S, i, 0, o, hn, h1, h2, hl => by
    cases h1; cases h2
    show (puts (S.set r q) rs os)[r]? = some q
    rw [puts_out (List.nodup_cons.mp hn).1, List.getElem?_set_self hl]
  | r :: rs, q :: os, S, i, j + 1, o, hn, h1, h2, hl => by
    show (puts (S.set r q) rs os)[i]? = some o
    exact puts_in (List.nodup_cons.mp hn).2 (by simpa using h1) (by simpa using h2) (by rw [List.length_set]; exact hl)
/-- the addresses of what is handed on -/
def rhoOf (ρ : Rho) (rs : List Nat) : Rho := rs.map fun i => (ρ[i]?).getD none
theorem rhoOf_get {ρ : Rho} {rs : List Nat} {j : Nat} {a : Addr} (h : (rhoOf ρ rs)[j]? = some (some a)) : ∃ i, rs[j]? = some i ∧ ρ[i]? = some (some a) := by
  unfold rhoOf at h
  rw [List.getElem?_map] at h
  cases q : rs[j]? with
  | none => rw [q] at h; cases h
  | some i =>
    rw [q] at h
    refine ⟨i, rfl, ?_⟩
    have h : (ρ[i]?).getD none = some a := Option.some.inj h
    cases z : ρ[i]? with
    | none => rw [z] at h; cases h
    | some y => rw [z] at h; rw [show y = some a from h]
theorem rhoOf_of {ρ : Rho} {rs : List Nat} {i j : Nat} {a : Addr} (h1 : rs[j]? = some i) (h2 : ρ[i]? = some (some a)) : (rhoOf ρ rs)[j]? = some (some a) := by
  unfold rhoOf
  rw [List.getElem?_map, h1]
  show some ((ρ[i]?).getD none) = _
  rw [h2]; rfl
/-- what the callee must not touch -/
def FOf (F : Dom) (ρ : Rho) (rs : List Nat) : Dom := fun b => F b ∨ (some b ∈ ρ ∧ some b ∉ rhoOf ρ rs)
theorem bd_FOf {rs : List Nat} {b : Addr} : Bd (FOf F ρ rs) (rhoOf ρ rs) b ↔ Bd F ρ b := by
  constructor
  · rintro ((h | h) | h)
    · exact .inl h
    · exact .inr h.1
    · obtain ⟨j, e⟩ := mem_rho.mp h
      obtain ⟨i, _, e2⟩ := rhoOf_get e
      exact .inr (mem_rho.mpr ⟨i, e2⟩)
  · rintro (h | h)
    · exact .inl (.inl h)
    · by_cases q : some b ∈ rhoOf ρ rs
      · exact .inr q
      · exact .inl (.inr ⟨h, q⟩)
theorem RO.closed {H' : Hp} {F' : Dom} {ρ' : Rho} {o : O} {a : Addr} (hc : o.closed = true) (hk : ∀ b u, H b = some u → ¬ Bd F ρ b → H' b = some u) (hb : ∀ b, Bd F' ρ' b → Bd F ρ b ∨ H b = none) (e : ∀ u, H a = some u → H' a = some u) (h : RO K H F ρ o a) : RO K H' F' ρ' o a := by
  cases o with
  | gone => cases hc
  | rl ks => cases hc
  | pl xs => obtain ⟨vs, h1, h2⟩ := h; exact ⟨vs, e _ h1, h2.mono hk hb⟩
  | pd xs => obtain ⟨vs, h1, h2⟩ := h; exact ⟨vs, e _ h1, h2.mono hk hb⟩
  | pdT xs => obtain ⟨vs, h1, h2⟩ := h; exact ⟨vs, e _ h1, h2.mono hk hb⟩
theorem hand_on {rs : List Nat} {os : List O} (r : Rl K H F ρ S) (hn : rs.Nodup) (hg : gets S rs = some os) : Rl K H (FOf F ρ rs) (rhoOf ρ rs) os := by
  obtain ⟨hl, ho⟩ := gets_all hg
  refine ⟨by unfold rhoOf; rw [List.length_map, hl], fun i j a e1 e2 => ?_, fun b q => r.al b (bd_FOf.mp q), fun i a e q => ?_, fun j a o e1 e2 => ?_, fun j o e ng => ?_⟩
  · obtain ⟨i', h1, h2⟩ := rhoOf_get e1
    obtain ⟨j', h3, h4⟩ := rhoOf_get e2
    have := r.nd i' j' a h2 h4
    subst this
    obtain ⟨l1, z1⟩ := List.getElem?_eq_some_iff.mp h1
    obtain ⟨l2, z2⟩ := List.getElem?_eq_some_iff.mp h3
    exact (List.getElem_inj hn).mp (z1.trans z2.symm)
  · obtain ⟨i', h1, h2⟩ := rhoOf_get e
    rcases q with q | q
    · exact r.ds i' a h2 q
    · exact q.2 (mem_rho.mpr ⟨i, e⟩)
  · obtain ⟨i, h1, h2⟩ := rhoOf_get e1
    obtain ⟨o', g1, g2, g3⟩ := ho j i h1
    rw [e2] at g2; cases g2
    exact (r.ob i a o h2 g1).closed g3 (fun _ _ e _ => e) (fun b q => .inl (bd_FOf.mp q)) fun _ e => e
  · have hj : j < rs.length := by rw [← hl]; exact (List.getElem?_eq_some_iff.mp e).1
    obtain ⟨o', g1, g2, g3⟩ := ho j rs[j] (by simp [hj])
    rw [e] at g2; cases g2
    obtain ⟨a, ha⟩ := r.go rs[j] o g1 ng
    exact ⟨a, rhoOf_of (by simp [hj]) ha⟩
theorem hand_vals {rs0 : List Nat} : ∀ {ds : List Val} {vs : List V} {k : Nat}, RVs K H F ρ ds vs → (∀ j, (refsOf ds)[j]? = rs0[k + j]?) → RVs K H (FOf F ρ rs0) (rhoOf ρ rs0) (renum k ds) vs
  | _, _, _, .nil, _ => .nil
  | .p x :: ds, _, k, .cons h t, e => by
    refine .cons (Rep.mono (fun _ _ e _ => e) (fun b q => .inl (bd_FOf.mp q)) h) (hand_vals t e)
  | .ref i :: ds, _, k, .cons h t, e => by
    have e0 : rs0[k]? = some i := by
      have := e 0
      rw [Nat.add_zero] at this
      rw [← this]; rfl
    refine .cons ⟨?_, fun a ha => ?_⟩ (hand_vals t fun j => ?_)
    · unfold rhoOf; rw [List.length_map]; exact (List.getElem?_eq_some_iff.mp e0).1
    · obtain ⟨i', h1, h2⟩ := rhoOf_get ha
      rw [e0] at h1; cases h1
      exact h.2 a h2
    · have := e (j + 1)
      rw [Nat.add_assoc, Nat.add_comm 1 j]
      rw [← this]; rfl
theorem hand_back {rs : List Nat} {os os' : List O} (r : Rl K H F ρ S) (hn : rs.Nodup) (hg : gets S rs = some os) (x : Xt H (rhoOf ρ rs) H' (rhoOf ρ rs)) (r' : Rl K H' (FOf F ρ rs) (rhoOf ρ rs) os') (hc : ∀ (j : Nat) (o : O), os'[j]? = some o → o.closed = true ∨ o = .gone) :
    Xt H ρ H' ρ ∧ Rl K H' F ρ (puts S rs os') := by
  obtain ⟨hl, ho⟩ := gets_all hg
  have xt : Xt H ρ H' ρ := by
    refine ⟨fun b o e n => x.keep b o e fun q => ?_, x.stay, Nat.le_refl _, fun i a e => .inl e⟩
    obtain ⟨j, e⟩ := mem_rho.mp q
    obtain ⟨i, _, e2⟩ := rhoOf_get e
    exact n (mem_rho.mpr ⟨i, e2⟩)
  have lo' : os'.length = rs.length := by rw [← r'.len]; unfold rhoOf; rw [List.length_map]
  refine ⟨xt, by rw [puts_len]; exact r.len, r.nd, fun b q => xt.stay b (r.al b q), r.ds, fun i a o e1 e2 => ?_, fun i o e ng => ?_⟩
  · by_cases hi : i ∈ rs
    · obtain ⟨j, hj⟩ := List.mem_iff_getElem?.mp hi
      have hjl : j < os'.length := by rw [lo']; exact (List.getElem?_eq_some_iff.mp hj).1
      have il : i < S.length := by
        obtain ⟨o', g1, _⟩ := ho j i hj
        exact (List.getElem?_eq_some_iff.mp g1).1
      have := puts_in (S := S) (os := os') hn hj (o := os'[j]) (List.getElem?_eq_getElem hjl) il
      rw [e2] at this; cases this
      have ob := r'.ob j a os'[j] (rhoOf_of hj e1) (by simp [hjl])
      rcases hc j os'[j] (by simp [hjl]) with z | z
      · exact ob.closed z (fun _ _ e _ => e) (fun b q => .inl (bd_FOf.mpr q)) fun _ e => e
      · rw [z] at ob; exact ob.elim
    · rw [puts_out hi] at e2
      refine (r.ob i a o e1 e2).xt xt fun u e => x.keep a u e fun q => ?_
      obtain ⟨j, ej⟩ := mem_rho.mp q
      obtain ⟨i', h1, h2⟩ := rhoOf_get ej
      exact hi (List.mem_iff_getElem?.mpr ⟨j, by rw [r.nd i i' a e1 h2]; exact h1⟩)
  · by_cases hi : i ∈ rs
    · obtain ⟨j, hj⟩ := List.mem_iff_getElem?.mp hi
      obtain ⟨o', g1, g2, g3⟩ := ho j i hj
      exact r.go i o' g1 (by rintro rfl; cases g3)
    · rw [puts_out hi] at e; exact r.go i o e ng
end
/-- a def's results: the things handed in stay plain -/
def Fn.Tame (f : Fn) : Prop := ∀ ds S r S', f ds S = some (r, S') → ∀ (j : Nat) (o : O), S'[j]? = some o → o.closed = true
theorem closeO_get : ∀ {S : List O} {j : Nat} {o : O}, closeO S = true → S[j]? = some o → o.closed = true
  | [], _, _, _, e => by simp at e
  | q :: S, 0, o, h, e => by
    cases e
    have h2 : (q.closed && closeO S) = true := h
    rw [Bool.and_eq_true] at h2
    exact h2.1
  | q :: S, j + 1, o, h, e => by
    have h' : q.closed = true ∧ closeO S = true := by
      have h2 : (q.closed && closeO S) = true := h
      rw [Bool.and_eq_true] at h2
      exact h2
    exact closeO_get h'.2 (by simpa using e)
theorem runF_tame {n : Nat} {b : SM} : (runF n b).Tame := by
  intro ds S r S' h j o e
  unfold runF at h
  have fin : ∀ {k : Nat} {v : Val} {S1 : List O}, finish k v S1 = some (r, S') → o.closed = true := fun {k v S1} h => by
    unfold finish at h
    split at h
    · rename_i hc
      cases v with
      | p x => cases h; exact closeO_get hc e
      | ref i =>
        dsimp only at h
        split at h
        · obtain ⟨x, e1, h⟩ := Option.bind_eq_some_iff.mp h
          cases h; exact closeO_get hc e
        · cases h
    · cases h
  split at h
  · exact fin h
  · exact fin h
  · split at h
    · rename_i hc
      cases h; exact closeO_get hc e
    · cases h
  · cases h
section
variable {X : Cx} {W : WX}
theorem de_call {k n : Nat} {x : Str} {f : Fn} {e : Expr} {es : List Expr} {ms : List EM} {p pos : Pos} (c : Cal X.prog X.w X.K X.mg X.base k x n f) (hf : f.Tame) (hr : Room k X.A) (tk : Takes X W) (ha : DA X W (e :: es) ms) (hl : ms.length = n := by rfl) (hg : Gl X x := by rfl) (hdb : (x == ("__debug__" : Str)) = false := by decide)
    (he : starEach (e :: es) X.env = (false, eval e X.env) :: starEach es X.env := by rfl) (hpl : (backTo pos (starEach es X.env)).any (·.1) = false := by rfl) : DE X W (.Call (.Name x p) (e :: es) [] pos) (mCall f ms) := by
  obtain ⟨fa, fd, ps, F0, hm, hk, hb⟩ := c
  refine PE.imp (pe_callS F0 hr hg hm hk hb (fun σ => passAt tk σ) ha hdb he hpl) fun σ H Q ⟨F, ρ, env, S, r, e, h⟩ => ?_
  unfold mCall at h
  refine ⟨F, ρ, env, S, r, e, (ans_eq h.bnd).imp (fun ds S1 h1 vs H1 ρ1 x1 r1 v1 => ?_) fun _ _ q => q⟩
  obtain ⟨e0, h1⟩ := h1
  unfold callV at h1
  split at h1
  · rename_i hnd
    have hnd := nodupB_of hnd
    obtain ⟨os, hg, h1⟩ := h1.opt
    refine ⟨by rw [← v1.length, evs_length e0, hl], FOf F ρ1 (refsOf ds), rhoOf ρ1 (refsOf ds), os, renum 0 ds, hand_on r1 hnd hg, hand_vals v1 (fun j => by rw [Nat.zero_add]), ?_⟩
    match q : f (renum 0 ds) os, h1 with
    | some (.ok (.p y), os'), h1 =>
      intro v H2 x2 r2 v2
      obtain ⟨xb, rb⟩ := hand_back r1 hnd hg x2 r2 fun j o e => .inl (hf _ _ _ _ q j o e)
      exact KV1.xt x1 h1 v H2 ρ1 xb rb (Rep.mono (fun _ _ e _ => e) (fun b q => .inl (bd_FOf.mpr q)) v2)
    | some (.exc c, os'), h1 =>
      intro C H2 hc x2 r2
      obtain ⟨xb, rb⟩ := hand_back r1 hnd hg x2 r2 fun j o e => .inl (hf _ _ _ _ q j o e)
      exact KX1.xt x1 h1 C H2 ρ1 hc xb rb
  · exact h1.elim
end

/-! ### a def's body -/
theorem close_back {K : PySem.W.Frag} {H H1 : Hp} {F : Dom} {ρ ρ1 : Rho} {S S1 : List O} (r : Rl K H F ρ S) (x : Xt H ρ H1 ρ1) (r1 : Rl K H1 F ρ1 S1) (hc : closeO (S1.take S.length) = true) :
    Xt H ρ H1 ρ ∧ Rl K H1 F ρ (S1.take S.length) ∧ (∀ b, Bd F ρ b → Bd F ρ1 b ∨ H1 b = none) ∧ ∀ (i : Nat) (a : Addr), ρ[i]? = some (some a) → ρ1[i]? = some (some a) := by
  have hlS : S.length ≤ S1.length := by rw [← r.len, ← r1.len]; exact x.len
  have same : ∀ (i : Nat) (a : Addr), ρ[i]? = some (some a) → ρ1[i]? = some (some a) := fun i a e => by
    have il : i < S.length := by rw [← r.len]; exact (List.getElem?_eq_some_iff.mp e).1
    have il1 : i < S1.length := Nat.lt_of_lt_of_le il hlS
    have cl : S1[i].closed = true := closeO_get hc (by rw [List.getElem?_take_of_lt il]; simp [il1])
    obtain ⟨a', ha'⟩ := r1.go i S1[i] (by simp [il1]) (by intro z; rw [z] at cl; cases cl)
    rcases x.old i a' ha' with z | ⟨z, _⟩
    · rw [e] at z; cases z; exact ha'
    · exact absurd (Nat.lt_of_lt_of_le il (by rw [← r.len]; exact z)) (Nat.lt_irrefl _)
  have hB : ∀ b, Bd F ρ b → Bd F ρ1 b := fun b q => q.elim (fun z => .inl z) fun z => by
    obtain ⟨i, e⟩ := mem_rho.mp z
    exact .inr (mem_rho.mpr ⟨i, same i b e⟩)
  refine ⟨⟨x.keep, x.stay, Nat.le_refl _, fun i a e => .inl e⟩, ?_, fun b q => .inl (hB b q), same⟩
  refine ⟨by rw [List.length_take, r.len]; omega, fun i j a e1 e2 => r1.nd i j a (same i a e1) (same j a e2), fun b q => r1.al b (hB b q), fun i a e => r1.ds i a (same i a e), fun i a o e1 e2 => ?_, fun i o e ng => ?_⟩
  · have il : i < S.length := by rw [← r.len]; exact (List.getElem?_eq_some_iff.mp e1).1
    have cl := closeO_get hc e2
    rw [List.getElem?_take_of_lt il] at e2
    exact (r1.ob i a o (same i a e1) e2).closed cl (fun _ _ e _ => e) (fun b q => .inl (hB b q)) fun _ e => e
  · have il : i < S.length := by
      by_cases z : i < S.length
      · exact z
      · rw [List.getElem?_eq_none (by rw [List.length_take]; omega)] at e; cases e
    rw [List.getElem?_take_of_lt il] at e
    obtain ⟨a, ha⟩ := r1.go i o e ng
    rcases x.old i a ha with z | ⟨z, _⟩
    · exact ⟨a, z⟩
    · exact absurd (Nat.lt_of_lt_of_le il (by rw [← r.len]; exact z)) (Nat.lt_irrefl _)
theorem finish_ok {K : PySem.W.Frag} {H : Hp} {F : Dom} {ρ : Rho} {S S1 : List O} {d : Val} {Q : VK} {ex : Str → List O → Prop} (r : Rl K H F ρ S)
    (h : Ans (finish S.length d S1) (fun d S' => ∀ v H', Xt H ρ H' ρ → Rl K H' F ρ S' → RV K H' F ρ d v → Q v H') ex) : KV1 K H F ρ Q d S1 := by
  intro v H1 ρ1 x1 r1 v1
  unfold finish at h
  split at h
  · rename_i hc
    obtain ⟨xb, rb, hb, same⟩ := close_back r x1 r1 hc
    cases d with
    | p x => exact h v H1 xb rb (Rep.mono (fun _ _ e _ => e) hb v1)
    | ref i =>
      dsimp only at h
      split at h
      · rename_i hk
        obtain ⟨x, e1, h⟩ := h.opt
        obtain ⟨o, e2, e3⟩ := Option.bind_eq_some_iff.mp e1
        obtain ⟨a, ha, rfl, ro⟩ := thing_lst r1 v1 e2 (by rintro rfl; cases e3)
        refine h _ H1 xb rb (pure_rep ro e3 hb fun q => ?_)
        rcases q with q | q
        · exact r1.ds i a ha q
        · obtain ⟨j, ej⟩ := mem_rho.mp q
          have jl : j < S.length := by rw [← r.len]; exact (List.getElem?_eq_some_iff.mp ej).1
          have := r1.nd i j a ha (same j a ej)
          omega
      · exact h.elim
  · exact h.elim
theorem RVs.start {K : PySem.W.Frag} {H : Hp} {F : Dom} {ρ : Rho} {N : List Str} {ds : List Val} {vs : List V} (h : RVs K H F ρ ds vs) : RE K H F ρ (ds.map some ++ List.replicate (N.length - ds.length) none) (L2.start N vs) := by
  have hl := h.length
  refine ⟨?_, fun i d e => ?_⟩
  · unfold L2.start
    rw [List.length_append, List.length_append, List.length_map, List.length_map, List.length_replicate, List.length_replicate, hl]
  by_cases hi : i < ds.length
  · rw [List.getElem?_append_left (by simpa using hi), List.getElem?_map] at e
    cases q : ds[i]? with
    | none => rw [q] at e; cases e
    | some d' =>
      rw [q] at e; cases e
      obtain ⟨v, h1, h2⟩ := h.get' q
      refine ⟨v, ?_, h2⟩
      unfold L2.start
      rw [List.getElem?_append_left (by rw [List.length_map, ← hl]; exact hi), List.getElem?_map, h1]; rfl
  · rw [List.getElem?_append_right (by simpa using Nat.le_of_not_lt hi)] at e
    rw [List.getElem?_replicate] at e
    split at e
    · cases e
    · cases e
theorem fn_ok {P : Program} {w : World} {K : PySem.W.Frag} {mg : Str → Option Value} {base : Heap} {x qual : Str} {st : Stmt} {f : Addr} {fd : FuncData} {N ps : List Str} {k n : Nat} {b : SM} (F : Fun K x qual st f fd) (S : FnScope N ps (defScope st)) (hn : ps.length = n)
    (hb : ∀ (cdv : Value) (A : Around) (outer : List PySem.Env) (s : Shared) (H : Hp) (E : XK), Room k (A.deeper (envOfC qual (defScope st) s.heap.objs.size f cdv)) →
      DSs (cxOf (L2.CX P w) P w K mg base N qual (defScope st) f cdv A outer s H E) (fun cls d _ H => E cls d H) (defBody st) b) : FnOk P w K mg base (L2.CX P w) (k + 1) f fd ps (spF K mg (runF N.length b) n) := by
  refine F.okX S (fun vs H Q E h => by rw [hn]; exact h.1) fun cdv A outer s H vs Q E hr h => ⟨_, hb cdv A outer s H E hr, ?_⟩
  obtain ⟨_, D, ρ, S0, ds, r, rv, h⟩ := h
  refine ⟨D, ρ, _, S0, r, rv.start (N := N), ?_⟩
  unfold runF at h
  match q : b (ds.map some ++ List.replicate (N.length - ds.length) none) S0, h with
  | some (.rt v, S1), h => exact finish_ok r h
  | some (.nx e, S1), h => exact fun σ' H' ρ' x r' _ => finish_ok r h .non H' ρ' x r' .non
  | some (.ex c e, S1), h =>
    intro C σ' H' ρ' hc x r' _
    dsimp only at h
    split at h
    · rename_i hcl
      obtain ⟨xb, rb, _, _⟩ := close_back r x r' hcl
      exact h C H' hc xb rb
    · exact h.elim
theorem fn_ok2 {P : Program} {w : World} {K : PySem.W.Frag} {mg : Str → Option Value} {base : Heap} {x qual : Str} {st : Stmt} {fa : Addr} {fd : FuncData} (N : List Str) {ps : List Str} (k : Nat) {n : Nat} (b : SM) {f : Fn} (F : Fun K x qual st fa fd) (S : FnScope N ps (defScope st)) (hf : f = runF N.length b) (hn : ps.length = n)
    (hb : ∀ (cdv : Value) (A : Around) (outer : List PySem.Env) (s : Shared) (H : Hp) (E : XK), Room k (A.deeper (envOfC qual (defScope st) s.heap.objs.size fa cdv)) → Takes (cxOf (L2.CX P w) P w K mg base N qual (defScope st) fa cdv A outer s H E) (fun cls d _ H => E cls d H) →
      PassesOwn (model P w) (A.deeper (envOfC qual (defScope st) s.heap.objs.size fa cdv)) (envOfC qual (defScope st) s.heap.objs.size fa cdv) (cxOf (L2.CX P w) P w K mg base N qual (defScope st) fa cdv A outer s H E).xe →
      DSs (cxOf (L2.CX P w) P w K mg base N qual (defScope st) fa cdv A outer s H E) (fun cls d _ H => E cls d H) (defBody st) b) : FnOk P w K mg base (L2.CX P w) (k + 1) fa fd ps (spF K mg f n) := by
  subst hf
  exact fn_ok F S hn fun cdv A outer s H E hr => hb cdv A outer s H E hr (takes_of rfl rfl rfl rfl) (passes_of rfl)
end Z

end
section
namespace Z
open PySem PySem.Spec PyProof.Rows L2

/-! ### enumerate(t) of anything that begins -/
section
set_option maxHeartbeats 1000000 in
theorem meets_enum1 {v : Value} {o : Obj} {G : Heap → Prop} (Bg : Begins v o G) :
    Meets (Builtin.«enumerate.__new__» ⟨[.type "enumerate", v], []⟩) (fun _ R s => G s.heap ∧
      R (.ok (.ret (.ref (s.heap.push o).objs.size))) { s with heap := (s.heap.push o).push { cls := .type "enumerate", data := .fields #[.none, .bool false, .ref s.heap.objs.size, rawInt 0, .none, .none] } }) :=
  .of_wp fun prg wd A R s hh => by
    obtain ⟨hp, g, d, tk, os⟩ := s
    obtain ⟨h1, hR⟩ := hh
    have hsub := sub_enumerate
    have q1 : ∀ {A' : Around} {E : Value → Shared → Prop} {Q : Value → Shared → Prop}, Q (.ref hp.objs.size) ⟨hp.push o, g, d, tk, os⟩ → wpAny (model prg wd) A' (pyIter v) Q E ⟨hp, g, d, tk, os⟩ :=
      fun q => Bg.iter prg wd _ _ ⟨hp, g, d, tk, os⟩ _ h1 q
    wp_walk using q1
    refine wpAny_stack_any fun st => wpAny_pure ?_
    split
    · rename_i c _ _ _ _ _
      cases (c == Value.type "enumerate")
      · wp_walk using q1
        exact ⟨_, rfl, hR⟩
      · wp_walk using q1
        exact ⟨_, rfl, hR⟩
    · wp_walk using q1
      exact ⟨_, rfl, hR⟩
theorem enum1 {prog : Program} {w : World} {A : Around} {E : Value → Shared → Prop} {s : Shared} {v : Value} {o : Obj} {G : Heap → Prop} {Q : Value → Shared → Prop} (Bg : Begins v o G) (h1 : G s.heap)
    (h : ∀ h', IsEnum h' (s.heap.objs.size + 1) s.heap.objs.size 0 .none → h'.get? s.heap.objs.size = some o → (∀ b u, s.heap.get? b = some u → h'.get? b = some u) → Q (.ref (s.heap.objs.size + 1)) { s with heap := h' }) :
    wpAny (model prog w) A (call (.type "enumerate") [v]) Q E s := by
  refine callType_new F.called_enumerate (by decide) (F.typeCall_enumerate_1 _) (F.newCall_enumerate_1 _) (fun obj => F.args_object_init_2 obj _) F.entry_enumerate_new (meets_enum1 Bg) ⟨h1, ?_⟩
  have hz : (s.heap.push o).objs.size = s.heap.objs.size + 1 := Heap.size_push ..
  show _ ∧ _
  rw [hz]
  have he : IsEnum ((s.heap.push o).push { cls := .type "enumerate", data := .fields #[.none, .bool false, .ref s.heap.objs.size, rawInt 0, .none, .none] }) (s.heap.objs.size + 1) s.heap.objs.size 0 .none := by
    have z := Heap.get?_push_size (s.heap.push o) (o := { cls := .type "enumerate", data := .fields #[.none, .bool false, .ref s.heap.objs.size, rawInt 0, .none, .none] }) rfl
    rw [hz] at z; exact z
  exact ⟨⟨_, he, rfl⟩, h _ he (Heap.get?_push_of_some _ (Heap.get?_push_size _ Bg.free)) fun b u x => Heap.get?_push_of_some _ (Heap.get?_push_of_some _ x)⟩
end
theorem enumT_end {prog : Program} {w : World} {A : Around} {E : Value → Shared → Prop} {s : Shared} {e it l : Addr} {i : Nat} {items : Array Value} {old : Value} {Q : Option Value → Shared → Prop} (hh : A.handled = none)
    (he : IsEnum s.heap e it i old) (hit : s.heap.IsTupleIter it l i) (hl : s.heap.IsTuple l items) (hx : items[i]? = none) (hQ : ∀ h', Heap.ExtBut it s.heap h' → Q none { s with heap := h' }) : wpAny (model prog w) A (pyNext (.ref e)) Q E s := by
  have ty : s.TypeIs (.ref e) "enumerate" := ⟨_, he, rfl⟩
  unfold pyNext
  refine wpAny_bind (wpAny_attempt (wpAny_callSpecial?_slot (name := Str.ofString "__next__") ty F.slot_enumerate_next (wpAny_call_entry F.slot_enumerate_next ty F.entry_enumerate_next ?_ (F.args_enumerate_next_1 _))))
  show wpAny _ _ (field (.ref e) 2 >>= _) _ _ _
  refine wpAny_bind (wpAny_field he rfl (x := .ref it) rfl ?_)
  refine wpAny_bind (wpAny_nextOf_tuple_end (by simpa using hh) hit hl hx fun h' x he' hx' => ?_)
  obtain ⟨o, ho, hc⟩ := hx'
  exact wpAny_bind (wpAny_isInstance (T := "StopIteration") (b := true) ⟨o, ho, hc⟩ isSubtype_stop (wpAny_pure (hQ _ he')))
/-- the tuple at a, each item in a new pair -/
def IteT (K : PySem.W.Frag) (a : Addr) : It :=
  ⟨fun i H => ∃ (xs : List V) (x : V), SqT K H a xs ∧ xs[i]? = some x,
   fun i H v H' => ∃ T x, v = .ref T ∧ H T = none ∧ H' = upd H T (.tup [.int (i : Nat), x]) ∧ ∀ xs, SqT K H a xs → xs[i]? = some x,
   fun i H => ∃ xs : List V, SqT K H a xs ∧ xs.length ≤ i⟩
theorem turn_enumT {P : Program} {w : World} {K : PySem.W.Frag} {elts : List Expr} {kk : Nat} {tpos : Pos} (a e it : Addr) :
    Turn P w K (.Tuple elts kk tpos) (IteT K a) [e, it] e (fun i h => (∃ old, IsEnum h e it ((i : Nat) : Int) old) ∧ h.IsTupleIter it a i ∧ e ≠ it) where
  mem := by simp
  obj := fun i h st b hb => by
    obtain ⟨⟨old, he⟩, ⟨o, ho, hc, hd⟩, _⟩ := st
    rcases (show b = e ∨ b = it by simpa using hb) with z | z
    · rw [z]; exact ⟨_, he, fun v q => nomatch q⟩
    · rw [z]; exact ⟨o, ho, fun v q => by rw [hd] at q; cases q⟩
  keep := fun i h h' st k => by
    obtain ⟨⟨old, he⟩, hi, hne⟩ := st
    exact ⟨⟨old, k e (by simp) _ he⟩, hi.at fun o q => k it (by simp) o q, hne⟩
  item := by
    intro X hP hw hK hc i pins s σ H E I hf st hg
    subst hP hw hK
    obtain ⟨⟨old, he⟩, hit, hne⟩ := st
    obtain ⟨xs, x, hq, hx⟩ := hg
    obtain ⟨its, rv, p, hz⟩ := I.tuple hq
    obtain ⟨u, hu, ru⟩ := rv.get hx
    have hel : e < s.heap.objs.size := Heap.lt_size he
    have hil : it < s.heap.objs.size := by obtain ⟨_, q, _⟩ := hit; exact Heap.lt_size q
    have pT : s.heap.IsTuple a its.toArray := p
    have hai : a ≠ it := by
      rintro rfl
      obtain ⟨o1, e1, c1, _⟩ := pT
      obtain ⟨o2, e2, c2, _⟩ := hit
      rw [e1] at e2; cases e2
      rw [c1] at c2; simp at c2
    have hae : e ≠ a := by
      rintro rfl
      obtain ⟨o1, e1, c1, _⟩ := pT
      have e2 : s.heap.get? e = some _ := he
      rw [e1] at e2; cases e2
      simp at c1
    have hil2 : i < its.toArray.size := by
      have := (List.getElem?_eq_some_iff.mp hu).1
      simpa using this
    refine wpAny_pyNext_enum_itemD (Draws.tuple (A := X.A.in1) (by have := I.ok.hd hc; simpa using this) it a hai its.toArray) he ⟨hit, pT⟩ hil2 hne (by simp only [List.mem_cons, not_or]; exact ⟨hne, hae, by simp⟩) fun x' h' tk hx' ho hit' hT hsz hk => ?_
    have ex : x' = u := by
      have z : its.toArray[i]? = some u := by simpa using hu
      rw [hx'] at z; exact Option.some.inj z
    subst ex
    refine ⟨_, rfl, wpAny_letOwnedTupleGo_enum (s := { s with heap := h', toks := tk + 1 }) ho fun h'' he' sb => ?_⟩
    have hT2 : h''.get? s.heap.objs.size = some { cls := .type "tuple", data := .seq #[.int i tk, x'] } := (sb.2 _ (Nat.ne_of_gt hel)).trans hT
    have new : ObjOk X.prog X.w (upd H s.heap.objs.size (.tup [.int (i : Nat), x])) h'' s.heap.objs.size (.tup [.int (i : Nat), x]) :=
      ⟨by show 2 ≤ sizeLine; decide, [.int i tk, x'], .cons ⟨_, rfl⟩ (.cons ru .nil), ⟨_, hT2, rfl, _, rfl⟩⟩
    have I1 : Inv X pins σ (upd H s.heap.objs.size (.tup [.int (i : Nat), x])) { s with heap := h'', toks := tk + 1 } :=
      I.turnedNew (ch := [e, it]) (fun b ob hb q => (sb.2 b (fun z => hb (by simp [z]))).trans (hk b ob (fun z => hb (by simp [z])) (fun z => hb (by simp [z])) q)) hf (Nat.le_refl _) new
    refine ⟨.ref s.heap.objs.size, _, I1, rfl, ⟨_, x, rfl, I.hok.fresh (Nat.le_refl _), rfl, fun ys hy => by rw [I.tuple_inj hy hq]; exact hx⟩, ⟨⟨x', ?_⟩, hit'.1.at fun o q => (sb.2 it (Ne.symm hne)).trans q, hne⟩, fun b hb => ?_⟩
    · have e1 : ((i + 1 : Nat) : Int) = (i : Int) + 1 := by omega
      rw [e1]; exact he'
    · have hb' : b < s.heap.objs.size := by
        rcases (show b = e ∨ b = it by simpa using hb) with z | z
        · rw [z]; exact hel
        · rw [z]; exact hil
      rw [upd_ne (Nat.ne_of_lt hb')]
      exact (hf b hb).1
  done := by
    intro X hP hw hK hc i pins s σ H E I hf st hg
    subst hP hw hK
    obtain ⟨⟨old, he⟩, hit, hne⟩ := st
    obtain ⟨xs, hq, hx⟩ := hg
    obtain ⟨its, rv, p, hz⟩ := I.tuple hq
    obtain ⟨f0, f1, f2, f3, f4, f5⟩ := hf it (by simp)
    have pT : s.heap.IsTuple a its.toArray := p
    have hl := rv.length
    exact enumT_end (I.ok.hd hc) he hit pT (by simp; omega) fun h' eb => ⟨rfl, I.turned (t' := s.toks) (fun b o hb q => eb b o hb q) f0 f1 f3 f4 f5⟩
  self := fun A i s Q E st h => by
    obtain ⟨⟨_, he⟩, _⟩ := st
    exact wpAny_pyIter_enum he h
def iEnumT (K : PySem.W.Frag) (ta : TA) : TI := fun σ H R => ta σ H fun vs H1 => ∃ a xs, vs = [.ref a] ∧ SqT K H1 a xs ∧ R (IteT K a) H1
theorem pi_enumT {X : Cx} {e : Expr} {ta : TA} {p pos tpos : Pos} {elts : List Expr} {kk : Nat} (hg : Gl X "enumerate") (hm : X.mg "enumerate" = none) (ha : PA X [e] ta) (hs : starEach [e] X.env = [(false, eval e X.env)] := by rfl) :
    PI X (.Tuple elts kk tpos) (.Call (.Name "enumerate" p) [e] [] pos) (iEnumT X.K ta) := by
  refine ⟨fun pins s σ H R I h => ?_⟩
  refine Call_ (ld_blt I hg hm boot_enumerate (PyProof.Rows.callWith_type1 (thn (ha.run pos pins s σ H _ I h) fun us s1 ⟨vs, H1, I1, r1, q1⟩ => ?_) hs rfl))
  obtain ⟨a, xs, ex, hq, q⟩ := q1
  subst ex
  cases r1 with
  | cons r rr =>
    cases rr
    cases r
    obtain ⟨its, rv, p', hz⟩ := I1.tuple hq
    have pT : s1.heap.IsTuple a its.toArray := p'
    refine enum1 (begins_tuple a its.toArray) pT fun h' he hit hk => wpAny_pyIter_enum he ?_
    have I2 : Inv X pins σ H1 { s1 with heap := h' } := I1.kept (t' := s1.toks) hk
    refine ⟨s1.heap.objs.size + 1, [s1.heap.objs.size + 1, s1.heap.objs.size], _, _, H1, rfl, I2, turn_enumT a (s1.heap.objs.size + 1) s1.heap.objs.size, ⟨⟨.none, he⟩, ⟨_, hit, rfl, rfl⟩, Nat.succ_ne_self _⟩, fun b hb => ?_, q⟩
    have hle : s1.heap.objs.size ≤ b := by
      rcases (show b = s1.heap.objs.size + 1 ∨ b = s1.heap.objs.size by simpa using hb) with z | z
      · rw [z]; exact Nat.le_add_right _ _
      · rw [z]; exact Nat.le_refl _
    exact I1.fpOk hle (I1.hok.fresh hle)
theorem enumL_get : ∀ {xs : List P} {k i : Nat} {p : P}, (enumL k xs)[i]? = some p → ∃ x, xs[i]? = some x ∧ p = .tup [.int ((k + i : Nat) : Int), x]
  | [], _, _, _, h => by simp [enumL] at h
  | x :: xs, k, 0, p, h => by
    simp only [enumL, List.getElem?_cons_zero] at h
    cases h; exact ⟨x, rfl, rfl⟩
  | x :: xs, k, i + 1, p, h => by
    simp only [enumL, List.getElem?_cons_succ] at h
    obtain ⟨y, h1, h2⟩ := enumL_get h
    exact ⟨y, by simpa using h1, by rw [h2, Nat.add_assoc, Nat.add_comm 1 i]⟩
theorem enumL_length : ∀ {xs : List P} {k : Nat}, (enumL k xs).length = xs.length
  | [], _ => rfl
  | x :: xs, k => by rw [enumL, List.length_cons, List.length_cons, enumL_length]
theorem rep_new {K : PySem.W.Frag} {H : Hp} {B : Dom} {T : Addr} {vs : List V} {xs : List P} (nT : H T = none) (al : ∀ b, B b → H b ≠ none) (r : RepL K H B xs vs) : Rep K (upd H T (.tup vs)) B (.tup xs) (.ref T) :=
  .tup upd_same (fun q => al T q nT) (r.mono (fun b u e _ => Same.upd nT b u e) fun b q => .inl q)
theorem itok_enumT {K : PySem.W.Frag} {H0 : Hp} {B0 : Dom} {a : Addr} {vs : List V} {xs : List P} (h : H0 a = some (.tup vs)) (n : ¬ B0 a) (r : RepL K H0 B0 xs vs) : ItOk K H0 B0 (IteT K a) (enumL 0 xs) := by
  refine ⟨fun i H k hi => ?_, fun i H k hi => ?_, fun i H x H' p k e y => ?_⟩
  · rw [enumL_length] at hi
    obtain ⟨v, hv, _⟩ := r.get' (i := i) (x := xs[i]) (by simp [hi])
    exact ⟨vs, v, SqT.of (k a _ h n), hv⟩
  · rw [enumL_length] at hi
    exact ⟨vs, SqT.of (k a _ h n), by rw [← r.length]; exact hi⟩
  · obtain ⟨T, z, rfl, nT, rfl, y⟩ := y
    obtain ⟨q, e1, rfl⟩ := enumL_get e
    obtain ⟨v, hv, rv⟩ := r.get' e1
    have := y vs (SqT.of (k a _ h n))
    rw [hv] at this; cases this
    exact ⟨Same.upd nT, fun B hb al => by rw [Nat.zero_add]; exact rep_new nT al (.cons (.int _) (.cons (rv.kp k hb) .nil))⟩
theorem itok_enumL {K : PySem.W.Frag} {H0 : Hp} {B0 : Dom} {a : Addr} {vs : List V} {xs : List P} (h : H0 a = some (.lst vs)) (n : ¬ B0 a) (r : RepL K H0 B0 xs vs) : ItOk K H0 B0 (Ite K a) (enumL 0 xs) := by
  refine ⟨fun i H k hi => ?_, fun i H k hi => ?_, fun i H x H' p k e y => ?_⟩
  · rw [enumL_length] at hi
    obtain ⟨v, hv, _⟩ := r.get' (i := i) (x := xs[i]) (by simp [hi])
    exact ⟨vs, v, SqL.of (k a _ h n), hv⟩
  · rw [enumL_length] at hi
    exact ⟨vs, SqL.of (k a _ h n), by rw [← r.length]; exact hi⟩
  · obtain ⟨T, z, rfl, nT, rfl, y⟩ := y
    obtain ⟨q, e1, rfl⟩ := enumL_get e
    obtain ⟨v, hv, rv⟩ := r.get' e1
    have := y vs (SqL.of (k a _ h n))
    rw [hv] at this; cases this
    exact ⟨Same.upd nT, fun B hb al => by rw [Nat.zero_add]; exact rep_new nT al (.cons (.int _) (.cons (rv.kp k hb) .nil))⟩
theorem di_enum {X : Cx} {W : WX} {e : Expr} {m : EM} {p pos tpos : Pos} {elts : List Expr} {kk : Nat} (hm : X.mg "enumerate" = none) (he : DE X W e m) (hg : Gl X "enumerate" := by rfl) (hs : starEach [e] X.env = [(false, eval e X.env)] := by rfl) :
    DI X W (.Tuple elts kk tpos) (.Call (.Name "enumerate" p) [e] [] pos) (iEnumM m) := by
  have ha : DA X W [e] [m] := da_cons he da_nil (by rw [hs]; rfl)
  refine PI.imp (PI.or (pi_enumT hg hm ha hs) (pi_enum hg hm ha hs)) fun σ H R ⟨F, ρ, env, S, r, e, h⟩ => ?_
  unfold iEnumM at h
  have h := ans_eq h.bnd
  match q : m env S, h with
  | some (.exc c, S1), h => exact .inl (tax_one ⟨F, ρ, env, S, r, e, by rw [q]; exact h⟩)
  | some (.ok d, S1), h =>
    obtain ⟨_, h⟩ := h
    obtain ⟨x, e1, h⟩ := h.opt
    obtain ⟨xs, e2, h⟩ := h.opt
    cases d with
    | ref i => cases e1
    | p y =>
      cases e1
      cases x with
      | tup ys =>
        cases e2
        refine .inl (tax_one ⟨F, ρ, env, S, r, e, ?_⟩)
        rw [q]
        intro v H1 ρ1 x1 r1 v1
        obtain ⟨a, vs, rfl, g1, g2, g3⟩ := RepA.tup (.rep v1)
        exact ⟨a, vs, rfl, SqT.of g1, h _ H1 ρ1 x1 r1 (itok_enumT g1 g2 g3)⟩
      | lst ys =>
        cases e2
        refine .inr (tax_one ⟨F, ρ, env, S, r, e, ?_⟩)
        rw [q]
        intro v H1 ρ1 x1 r1 v1
        obtain ⟨a, vs, rfl, g1, g2, g3⟩ := Rep.lstI v1
        exact ⟨a, vs, rfl, SqL.of g1, h _ H1 ρ1 x1 r1 (itok_enumL g1 g2 g3)⟩
      | fz ns => cases e2
      | non => cases e2
      | bl b => cases e2
      | int b => cases e2
      | str b => cases e2
      | dct b => cases e2
      | dcT b => cases e2
end Z

end
section
namespace Z
open PySem L2
/-! ### operations on plain data -/
def addP : P → P → Option P
  | .int a, .int b => some (.int (a + b))
  | .tup xs, .tup ys => if xs.length + ys.length ≤ sizeLine then some (.tup (xs ++ ys)) else none
  | .lst xs, .lst ys => if xs.length + ys.length ≤ sizeLine then some (.lst (xs ++ ys)) else none
  | .str x, .str y => if x.length + y.length ≤ sizeLine then some (.str (x ++ y)) else none
  | _, _ => none
def subP : P → P → Option P
  | .int a, .int b => some (.int (a - b))
  | _, _ => none
def mulP : P → P → Option P
  | .int a, .int b => if (-(2 ^ 64) < a ∧ a < 2 ^ 64) ∨ (-(2 ^ 64) < b ∧ b < 2 ^ 64) then some (.int (a * b)) else none
  | .lst xs, .int k => if 0 ≤ k ∧ k ≤ 1000 ∧ xs.length ≤ 1000 then some (.lst (List.replicate k.toNat xs).flatten) else none
  | .tup xs, .int k => if 2 ≤ k ∧ k ≤ 1000 ∧ xs.length ≠ 0 ∧ xs.length ≤ 1000 then some (.tup (List.replicate k.toNat xs).flatten) else none
  | _, _ => none
def fdivP : P → P → Option P
  | .int a, .int b => if 0 < b ∧ b < 1073741824 then some (.int (a / b)) else none
  | _, _ => none
def modP : P → P → Option P
  | .int a, .int b => if 0 < b then some (.int (a % b)) else none
  | _, _ => none
def negP : P → Option P
  | .int a => some (.int (-a))
  | _ => none
def ltP : P → P → Option P
  | .int a, .int b => some (.bl (decide (a < b)))
  | _, _ => none
def leP : P → P → Option P
  | .int a, .int b => some (.bl (decide (a ≤ b)))
  | _, _ => none
def gtP : P → P → Option P
  | .int a, .int b => some (.bl (decide (b < a)))
  | _, _ => none
def geP : P → P → Option P
  | .int a, .int b => some (.bl (decide (b ≤ a)))
  | _, _ => none
mutual
def eqB : P → P → Bool
  | .non, .non => true
  | .bl a, .bl b => a == b
  | .bl a, .int j => (if a then 1 else 0) == j
  | .int i, .bl b => i == (if b then 1 else 0)
  | .int i, .int j => i == j
  | .str x, .str y => x == y
  | .lst xs, .lst ys => eqBs xs ys
  | .tup xs, .tup ys => eqBs xs ys
  | _, _ => false
def eqBs : List P → List P → Bool
  | [], [] => true
  | x :: xs, y :: ys => eqB x y && eqBs xs ys
  | _, _ => false
end
mutual
/-- data that may be compared, at most n deep -/
def lay : Nat → P → Bool
  | _, .non => true
  | _, .bl _ => true
  | _, .int _ => true
  | _, .str x => x.cps.all (· < 0x110000)
  | n + 1, .tup xs => lays n xs
  | n + 1, .lst xs => lays n xs
  | _, _ => false
def lays : Nat → List P → Bool
  | _, [] => true
  | n, x :: xs => lay n x && lays n xs
end
def eqP (p q : P) : Option P := if (lay 16 p && lay 16 q) = true then some (.bl (eqB p q)) else none
def neP (p q : P) : Option P := if (lay 16 p && lay 16 q) = true then some (.bl (!eqB p q)) else none
def isP : P → P → Option P
  | .non, .non => some (.bl true)
  | _, .non => some (.bl false)
  | .bl a, .bl b => some (.bl (decide (a = b)))
  | _, _ => none
def isNotP : P → P → Option P
  | .non, .non => some (.bl false)
  | _, .non => some (.bl true)
  | .bl a, .bl b => some (.bl (!decide (a = b)))
  | _, _ => none
def idxP : P → P → Option P
  | .tup xs, .int i => atI xs i
  | .lst xs, .int i => atI xs i
  | .fz ns, .int i => (atI ns i).map P.int
  | .str z, .int i => if z.length ≤ sizeLine then (atI z.cps.toList i).map fun c => .str ⟨#[c]⟩ else none
  | _, _ => none
def cutP {α : Type} (xs : List α) (lo hi : Option Int) : List α := (xs.drop (HT.sIx xs.length 0 lo)).take (HT.sIx xs.length xs.length hi - HT.sIx xs.length 0 lo)
def sliceP : P → Option Int → Option Int → Option P
  | .tup xs, lo, hi => some (.tup (cutP xs lo hi))
  | .lst xs, lo, hi => some (.lst (cutP xs lo hi))
  | _, _, _ => none
@[simp] def partV : Val → Option Int
  | .p (.int i) => some i
  | _ => none
@[simp] def evO : Option EM → Env → M (Option Int)
  | none, _, S => some (.ok none, S)
  | some m, env, S => bnd (m env S) fun v S1 => (partV v).bind fun i => some (.ok (some i), S1)
@[simp] def mSl (m : EM) (lo hi : Option EM) : EM := fun env S => bnd (m env S) fun v S1 => bnd (evO lo env S1) fun l S2 => bnd (evO hi env S2) fun h S3 => (deref S3 v).bind fun x => retO (sliceP x l h) S3
def lenP : List P → Option P
  | [.tup xs] => some (.int xs.length)
  | [.lst xs] => some (.int xs.length)
  | [.fz ns] => some (.int ns.length)
  | [.str x] => if x.length ≤ sizeLine then some (.int x.length) else none
  | _ => none
def intsOf : List P → Option (List Int)
  | [] => some []
  | .int i :: xs => (intsOf xs).bind fun is => some (i :: is)
  | _ => none
def bolsOf : List P → Option (List Bool)
  | [] => some []
  | .bl i :: xs => (bolsOf xs).bind fun is => some (i :: is)
  | _ => none
def sumP : List P → Option P
  | [.tup xs] => (intsOf xs).bind fun is => some (.int is.sum)
  | [.lst xs] => (intsOf xs).bind fun is => some (.int is.sum)
  | _ => none
def allP : List P → Option P
  | [.lst xs] => (bolsOf xs).bind fun is => some (.bl (is.all id))
  | _ => none
def anyP : List P → Option P
  | [.lst xs] => (bolsOf xs).bind fun is => some (.bl (is.any id))
  | _ => none
def minP : List P → Option P
  | [.int i, .int j] => some (.int (if j < i then j else i))
  | _ => none
def maxP : List P → Option P
  | [.int i, .int j] => some (.int (if j > i then j else i))
  | _ => none
def tupleP : List P → Option P
  | [.tup xs] => some (.tup xs)
  | [.lst xs] => some (.tup xs)
  | _ => none
def listP : List P → Option P
  | [.tup xs] => some (.lst xs)
  | [.lst xs] => some (.lst xs)
  | _ => none
def intP : List P → Option P
  | [.int i] => some (.int i)
  | [.bl b] => some (.int (if b then 1 else 0))
  | _ => none
/-! isinstance(x, T) -/
@[simp] def tyP : P → Option String
  | .non => some "NoneType"
  | .bl _ => some "bool"
  | .int _ => some "int"
  | .str _ => some "str"
  | .tup _ => some "tuple"
  | .lst _ => some "list"
  | _ => none
def isiT (T U : String) : Option Bool := if T = U then some true else if T = "bool" ∧ U = "int" then some true else if (T = "NoneType" ∨ T = "bool" ∨ T = "int" ∨ T = "str" ∨ T = "tuple" ∨ T = "list") ∧ (U = "bool" ∨ U = "int" ∨ U = "str" ∨ U = "tuple" ∨ U = "list") then some false else none
def isiQ (U : String) (p : P) : Option P := (tyP p).bind fun T => if ["bool", "int", "str", "tuple", "list"].contains U = true then (isiT T U).bind fun b => some (.bl b) else none
/-- tuple(range(..)), list(range(..)) -/
def rgP (a b : Int) : List P := rngL a (b - a).toNat
@[simp] def iZipM (a b : EM) : IM := fun env S => bnd (a env S) fun v S1 => bnd (b env S1) fun u S2 => match v, u with
  | .p (.tup xs), .p (.tup ys) => some (.ok (zipL xs ys), S2)
  | .p (.lst xs), .p (.lst ys) => some (.ok (zipL xs ys), S2)
  | _, _ => none
/-- a < b < c -/
@[simp] def mChain (f g : P → P → Option P) (a b c : EM) : EM := fun env S => bnd (a env S) fun v S1 => bnd (b env S1) fun u S2 => (deref S2 v).bind fun p => (deref S2 u).bind fun q => match f p q with
  | some (.bl true) => bnd (c env S2) fun t S3 => (deref S3 u).bind fun q' => (deref S3 t).bind fun r => retO (g q' r) S3
  | some (.bl false) => ret1 (.bl false) S2
  | _ => none
@[simp] theorem addP_i (a b : Int) : addP (.int a) (.int b) = some (.int (a + b)) := rfl
@[simp] theorem addP_t (xs ys : List P) : addP (.tup xs) (.tup ys) = if xs.length + ys.length ≤ sizeLine then some (.tup (xs ++ ys)) else none := rfl
@[simp] theorem addP_l (xs ys : List P) : addP (.lst xs) (.lst ys) = if xs.length + ys.length ≤ sizeLine then some (.lst (xs ++ ys)) else none := rfl
@[simp] theorem addP_s (x y : Str) : addP (.str x) (.str y) = if x.length + y.length ≤ sizeLine then some (.str (x ++ y)) else none := rfl
@[simp] theorem subP_i (a b : Int) : subP (.int a) (.int b) = some (.int (a - b)) := rfl
@[simp] theorem fdivP_i (a b : Int) : fdivP (.int a) (.int b) = if 0 < b ∧ b < 1073741824 then some (.int (a / b)) else none := rfl
@[simp] theorem modP_i (a b : Int) : modP (.int a) (.int b) = if 0 < b then some (.int (a % b)) else none := rfl
@[simp] theorem negP_i (a : Int) : negP (.int a) = some (.int (-a)) := rfl
@[simp] theorem ltP_i (a b : Int) : ltP (.int a) (.int b) = some (.bl (decide (a < b))) := rfl
@[simp] theorem leP_i (a b : Int) : leP (.int a) (.int b) = some (.bl (decide (a ≤ b))) := rfl
@[simp] theorem gtP_i (a b : Int) : gtP (.int a) (.int b) = some (.bl (decide (b < a))) := rfl
@[simp] theorem geP_i (a b : Int) : geP (.int a) (.int b) = some (.bl (decide (b ≤ a))) := rfl
@[simp] theorem isP_n : isP .non .non = some (.bl true) := rfl
@[simp] theorem isP_i (a : Int) : isP (.int a) .non = some (.bl false) := rfl
@[simp] theorem isP_b (a : Bool) : isP (.bl a) .non = some (.bl false) := rfl
@[simp] theorem isP_t (a : List P) : isP (.tup a) .non = some (.bl false) := rfl
@[simp] theorem isP_l (a : List P) : isP (.lst a) .non = some (.bl false) := rfl
@[simp] theorem isP_s (a : Str) : isP (.str a) .non = some (.bl false) := rfl
@[simp] theorem isNotP_n : isNotP .non .non = some (.bl false) := rfl
@[simp] theorem isNotP_i (a : Int) : isNotP (.int a) .non = some (.bl true) := rfl
@[simp] theorem isNotP_b (a : Bool) : isNotP (.bl a) .non = some (.bl true) := rfl
@[simp] theorem isNotP_t (a : List P) : isNotP (.tup a) .non = some (.bl true) := rfl
@[simp] theorem isNotP_l (a : List P) : isNotP (.lst a) .non = some (.bl true) := rfl
@[simp] theorem isNotP_s (a : Str) : isNotP (.str a) .non = some (.bl true) := rfl
@[simp] theorem isP_bb (a b : Bool) : isP (.bl a) (.bl b) = some (.bl (decide (a = b))) := rfl
@[simp] theorem isNotP_bb (a b : Bool) : isNotP (.bl a) (.bl b) = some (.bl (!decide (a = b))) := rfl
@[simp] theorem idxP_t (xs : List P) (i : Int) : idxP (.tup xs) (.int i) = atI xs i := rfl
@[simp] theorem idxP_l (xs : List P) (i : Int) : idxP (.lst xs) (.int i) = atI xs i := rfl
@[simp] theorem idxP_f (xs : List Int) (i : Int) : idxP (.fz xs) (.int i) = (atI xs i).map P.int := rfl
@[simp] theorem idxP_s (z : Str) (i : Int) : idxP (.str z) (.int i) = if z.length ≤ sizeLine then (atI z.cps.toList i).map fun c => .str ⟨#[c]⟩ else none := rfl
@[simp] theorem sliceP_t (xs : List P) (a b : Option Int) : sliceP (.tup xs) a b = some (.tup (cutP xs a b)) := rfl
@[simp] theorem sliceP_l (xs : List P) (a b : Option Int) : sliceP (.lst xs) a b = some (.lst (cutP xs a b)) := rfl
@[simp] theorem lenP_t (xs : List P) : lenP [.tup xs] = some (.int xs.length) := rfl
@[simp] theorem lenP_l (xs : List P) : lenP [.lst xs] = some (.int xs.length) := rfl
@[simp] theorem lenP_f (xs : List Int) : lenP [.fz xs] = some (.int xs.length) := rfl
@[simp] theorem lenP_s (x : Str) : lenP [.str x] = if x.length ≤ sizeLine then some (.int x.length) else none := rfl
@[simp] theorem sumP_t (xs : List P) : sumP [.tup xs] = (intsOf xs).bind fun is => some (.int is.sum) := rfl
@[simp] theorem tupleP_t (xs : List P) : tupleP [.tup xs] = some (.tup xs) := rfl
@[simp] theorem listP_t (xs : List P) : listP [.tup xs] = some (.lst xs) := rfl
@[simp] theorem sumP_l (xs : List P) : sumP [.lst xs] = (intsOf xs).bind fun is => some (.int is.sum) := rfl
@[simp] theorem tupleP_l (xs : List P) : tupleP [.lst xs] = some (.tup xs) := rfl
@[simp] theorem listP_l (xs : List P) : listP [.lst xs] = some (.lst xs) := rfl
@[simp] theorem allP_l (xs : List P) : allP [.lst xs] = (bolsOf xs).bind fun is => some (.bl (is.all id)) := rfl
@[simp] theorem anyP_l (xs : List P) : anyP [.lst xs] = (bolsOf xs).bind fun is => some (.bl (is.any id)) := rfl
@[simp] theorem minP_i (i j : Int) : minP [.int i, .int j] = some (.int (if j < i then j else i)) := rfl
@[simp] theorem maxP_i (i j : Int) : maxP [.int i, .int j] = some (.int (if j > i then j else i)) := rfl
@[simp] theorem intP_i (i : Int) : intP [.int i] = some (.int i) := rfl
@[simp] theorem intP_b (b : Bool) : intP [.bl b] = some (.int (if b then 1 else 0)) := rfl
end Z

end
section
namespace Z
open PySem PySem.Spec PyProof.Rows L2
section
variable {X : Cx} {W : WX}
theorem op_addP : OpR X (binaryOp .Add) (r2P X.K addP) := by
  refine OpR.imp (((op_add.or op_catA).or op_add_str).or op_cat) fun x y H Q ⟨B, p, q, z, al, hp, hq, e, k⟩ => ?_
  unfold addP at e
  split at e
  · cases e
    obtain rfl := hp.int
    obtain rfl := hq.int
    exact .inl (.inl (.inl ⟨_, _, rfl, rfl, k _ H (fun _ _ h => h) (.int _)⟩))
  · split at e
    · rename_i hl
      cases e
      obtain ⟨a, vs, rfl, h1, n1, r1⟩ := hp.tup
      obtain ⟨b, ws, rfl, h2, n2, r2⟩ := hq.tup
      refine .inl (.inl (.inr ⟨a, b, vs, ws, rfl, rfl, SqT.of h1, SqT.of h2, by rw [← r1.length, ← r2.length]; exact hl, fun e => ?_, fun _ e => ?_, fun _ _ t ht => ?_⟩))
      · subst e
        cases r1
        exact k _ H (fun _ _ h => h) (.tup h2 n2 r2)
      · subst e
        cases r2
        rw [List.append_nil] at k
        exact k _ H (fun _ _ h => h) (.tup h1 n1 r1)
      · exact k _ _ (Same.upd ht) (rep_new ht al (r1.append r2))
    · cases e
  · split at e
    · rename_i hl
      cases e
      obtain ⟨a, vs, rfl, h1, r1⟩ := hp.lstI
      obtain ⟨b, ws, rfl, h2, r2⟩ := hq.lstI
      exact .inr ⟨a, b, vs, ws, rfl, rfl, h1, h2, by rw [← r1.length, ← r2.length]; exact hl, fun t ht => k _ _ (Same.upd ht) (.lst upd_same (fun q => al t q ht) ((r1.append r2).mono (fun b u e _ => Same.upd ht b u e) fun b q => .inl q))⟩
    · cases e
  · split at e
    · rename_i hl
      cases e
      obtain rfl := hp.str
      obtain rfl := hq.str
      exact .inl (.inr ⟨_, _, rfl, rfl, hl, k _ H (fun _ _ h => h) (.str _)⟩)
    · cases e
  · cases e
theorem op_subP : OpR X (binaryOp .Sub) (r2P X.K subP) := by
  refine OpR.imp op_sub fun x y H Q ⟨B, p, q, z, al, hp, hq, e, k⟩ => ?_
  unfold subP at e
  split at e
  · cases e
    obtain rfl := hp.int
    obtain rfl := hq.int
    exact ⟨_, _, rfl, rfl, k _ H (fun _ _ h => h) (.int _)⟩
  · cases e
theorem op_mulP : OpR X (binaryOp .Mult) (r2P X.K mulP) := by
  refine OpR.imp ((op_mul.or op_rep).or op_repT) fun x y H Q ⟨B, p, q, z, al, hp, hq, e, k⟩ => ?_
  unfold mulP at e
  split at e
  · split at e
    · rename_i hl
      cases e
      obtain rfl := hp.int
      obtain rfl := hq.int
      exact .inl (.inl ⟨_, _, rfl, rfl, hl, k _ H (fun _ _ h => h) (.int _)⟩)
    · cases e
  · split at e
    · rename_i xs n hl
      cases e
      obtain ⟨a, vs, rfl, h1, r1⟩ := hp.lstI
      obtain rfl := hq.int
      have hlen : vs.length * n.toNat ≤ sizeLine := by
        have h1 : vs.length ≤ 1000 := by rw [← r1.length]; exact hl.2.2
        have h2 : n.toNat ≤ 1000 := by omega
        have h3 : vs.length * n.toNat ≤ 1000 * 1000 := Nat.mul_le_mul h1 h2
        exact Nat.le_trans h3 (by rw [sizeLine_eq]; decide)
      refine .inl (.inr ⟨a, n, vs, rfl, rfl, h1, by omega, by omega, hlen, fun t ht => k _ _ (Same.upd ht) (.lst upd_same (fun q => al t q ht) ?_)⟩)
      have rep : ∀ m : Nat, RepL X.K H B (List.replicate m xs).flatten (List.replicate m vs).flatten := fun m => by
        induction m with
        | zero => exact .nil
        | succ m ih => rw [List.replicate_succ, List.replicate_succ, List.flatten_cons, List.flatten_cons]; exact r1.append ih
      exact (rep _).mono (fun b u e _ => Same.upd ht b u e) fun b q => .inl q
    · cases e
  · split at e
    · rename_i xs n hl
      cases e
      obtain ⟨a, vs, rfl, h1, _, r1⟩ := hp.tup
      obtain rfl := hq.int
      have hlen : xs.length = vs.length := r1.length
      refine .inr ⟨a, n, vs, rfl, rfl, SqT.of h1, fun z => hl.2.2.1 (by rw [hlen, z]; rfl), by omega, by omega, by omega, fun t ht => k _ _ (Same.upd ht) (.tup upd_same (fun q => al t q ht) ?_)⟩
      have rep : ∀ m : Nat, RepL X.K H B (List.replicate m xs).flatten (List.replicate m vs).flatten := fun m => by
        induction m with
        | zero => exact .nil
        | succ m ih => rw [List.replicate_succ, List.replicate_succ, List.flatten_cons, List.flatten_cons]; exact r1.append ih
      exact (rep _).mono (fun b u e _ => Same.upd ht b u e) fun b q => .inl q
    · cases e
  · cases e
theorem op_fdivP : OpR X (binaryOp .FloorDiv) (r2P X.K fdivP) := by
  refine OpR.imp op_fdiv fun x y H Q ⟨B, p, q, z, al, hp, hq, e, k⟩ => ?_
  unfold fdivP at e
  split at e
  · split at e
    · rename_i hl
      cases e
      obtain rfl := hp.int
      obtain rfl := hq.int
      exact ⟨_, _, rfl, rfl, hl, k _ H (fun _ _ h => h) (.int _)⟩
    · cases e
  · cases e
theorem op_modP : OpR X (binaryOp .Mod) (r2P X.K modP) := by
  refine OpR.imp op_mod fun x y H Q ⟨B, p, q, z, al, hp, hq, e, k⟩ => ?_
  unfold modP at e
  split at e
  · split at e
    · rename_i hl
      cases e
      obtain rfl := hp.int
      obtain rfl := hq.int
      exact ⟨_, _, rfl, rfl, hl, k _ H (fun _ _ h => h) (.int _)⟩
    · cases e
  · cases e
theorem un_negP : UnR X (unaryOp .USub) (r1P X.K negP) := by
  refine UnR.imp un_neg fun x H Q ⟨B, p, z, al, hp, e, k⟩ => ?_
  unfold negP at e
  split at e
  · cases e
    obtain rfl := hp.int
    exact ⟨_, rfl, k _ H (fun _ _ h => h) (.int _)⟩
  · cases e
theorem op_ltP : OpR X (compareOp .Lt) (r2P X.K ltP) := by
  refine OpR.imp op_lt fun x y H Q ⟨B, p, q, z, al, hp, hq, e, k⟩ => ?_
  unfold ltP at e
  split at e
  · cases e
    obtain rfl := hp.int
    obtain rfl := hq.int
    exact ⟨_, _, rfl, rfl, k _ H (fun _ _ h => h) (.bl _)⟩
  · cases e
theorem op_leP : OpR X (compareOp .LtE) (r2P X.K leP) := by
  refine OpR.imp op_le fun x y H Q ⟨B, p, q, z, al, hp, hq, e, k⟩ => ?_
  unfold leP at e
  split at e
  · cases e
    obtain rfl := hp.int
    obtain rfl := hq.int
    exact ⟨_, _, rfl, rfl, k _ H (fun _ _ h => h) (.bl _)⟩
  · cases e
theorem op_gtP : OpR X (compareOp .Gt) (r2P X.K gtP) := by
  refine OpR.imp op_gt fun x y H Q ⟨B, p, q, z, al, hp, hq, e, k⟩ => ?_
  unfold gtP at e
  split at e
  · cases e
    obtain rfl := hp.int
    obtain rfl := hq.int
    exact ⟨_, _, rfl, rfl, k _ H (fun _ _ h => h) (.bl _)⟩
  · cases e
theorem op_geP : OpR X (compareOp .GtE) (r2P X.K geP) := by
  refine OpR.imp op_ge fun x y H Q ⟨B, p, q, z, al, hp, hq, e, k⟩ => ?_
  unfold geP at e
  split at e
  · cases e
    obtain rfl := hp.int
    obtain rfl := hq.int
    exact ⟨_, _, rfl, rfl, k _ H (fun _ _ h => h) (.bl _)⟩
  · cases e

/-! ### == of plain data -/
mutual
def P.py : P → PyData
  | .non => .none
  | .bl b => .bool b
  | .int i => .int i
  | .str x => .str x
  | .tup xs => .tuple (pys xs)
  | .lst xs => .list (pys xs)
  | _ => .dict []
def pys : List P → List PyData
  | [] => []
  | x :: xs => x.py :: pys xs
end
mutual
theorem lay_ok : ∀ (n : Nat) (p : P), lay n p = true → p.py.canLay0 = true ∧ p.py.depth ≤ n
  | n, .non, _ => ⟨rfl, Nat.zero_le _⟩
  | n, .bl _, _ => ⟨rfl, Nat.zero_le _⟩
  | n, .int _, _ => ⟨rfl, Nat.zero_le _⟩
  | n, .str x, h => ⟨by simpa [lay, P.py, PyData.canLay0, PyData.strOk] using h, Nat.zero_le _⟩
  | 0, .tup xs, h => by simp [lay] at h
  | n + 1, .tup xs, h => by
    obtain ⟨h1, h2⟩ := lays_ok n xs (by simpa [lay] using h)
    exact ⟨by simpa [P.py, PyData.canLay0] using h1, by simp only [P.py, PyData.depth]; omega⟩
  | 0, .lst xs, h => by simp [lay] at h
  | n + 1, .lst xs, h => by
    obtain ⟨h1, h2⟩ := lays_ok n xs (by simpa [lay] using h)
    exact ⟨by simpa [P.py, PyData.canLay0] using h1, by simp only [P.py, PyData.depth]; omega⟩
  | n, .fz _, h => by simp [lay] at h
  | n, .dct _, h => by simp [lay] at h
  | n, .dcT _, h => by simp [lay] at h
theorem lays_ok : ∀ (n : Nat) (ps : List P), lays n ps = true → PyData.canLayAll0 (pys ps) = true ∧ PyData.depthAll (pys ps) ≤ n
  | n, [], _ => ⟨rfl, Nat.zero_le _⟩
  | n, p :: ps, h => by
    simp only [lays, Bool.and_eq_true] at h
    obtain ⟨h1, h2⟩ := lay_ok n p h.1
    obtain ⟨h3, h4⟩ := lays_ok n ps h.2
    exact ⟨by simp [pys, PyData.canLayAll0, h1, h3], by simp only [pys, PyData.depthAll]; omega⟩
end
mutual
theorem eqB_py : ∀ (n : Nat) (p q : P), lay n p = true → lay n q = true → PyData.eqv p.py q.py = eqB p q
  | n, .non, q, _, hq => by cases q <;> first | rfl | simp [lay] at hq
  | n, .bl a, q, _, hq => by cases q <;> first | rfl | simp [lay] at hq
  | n, .int a, q, _, hq => by cases q <;> first | rfl | simp [lay] at hq
  | n, .str a, q, _, hq => by cases q <;> first | rfl | simp [lay] at hq
  | 0, .tup xs, q, hp, hq => by simp [lay] at hp
  | n + 1, .tup xs, q, hp, hq => by
    cases q with
    | tup ys => exact eqBs_py n xs ys (by simpa [lay] using hp) (by simpa [lay] using hq)
    | fz _ => simp [lay] at hq
    | dct _ => simp [lay] at hq
    | dcT _ => simp [lay] at hq
    | _ => rfl
  | 0, .lst xs, q, hp, hq => by simp [lay] at hp
  | n + 1, .lst xs, q, hp, hq => by
    cases q with
    | lst ys => exact eqBs_py n xs ys (by simpa [lay] using hp) (by simpa [lay] using hq)
    | fz _ => simp [lay] at hq
    | dct _ => simp [lay] at hq
    | dcT _ => simp [lay] at hq
    | _ => rfl
  | n, .fz _, _, h, _ => by simp [lay] at h
  | n, .dct _, _, h, _ => by simp [lay] at h
  | n, .dcT _, _, h, _ => by simp [lay] at h
theorem eqBs_py : ∀ (n : Nat) (p q : List P), lays n p = true → lays n q = true → PyData.eqvAll (pys p) (pys q) = eqBs p q
  | n, [], [], _, _ => rfl
  | n, [], _ :: _, _, _ => rfl
  | n, _ :: _, [], _, _ => rfl
  | n, x :: xs, y :: ys, hp, hq => by
    simp only [lays, Bool.and_eq_true] at hp hq
    show (PyData.eqv x.py y.py && PyData.eqvAll (pys xs) (pys ys)) = (eqB x y && eqBs xs ys)
    rw [eqB_py n x y hp.1 hq.1, eqBs_py n xs ys hp.2 hq.2]
end
mutual
theorem rep_dp {K : PySem.W.Frag} {H : Hp} {B : Dom} : ∀ (n : Nat) {p : P} {v : V}, lay n p = true → Rep K H B p v → Dp K H v p.py
  | _, _, _, _, .non => .non
  | _, _, _, _, .bl b => .bl b
  | _, _, _, _, .int b => .int b
  | _, _, _, _, .str b => .str b
  | 0, _, _, h, .tup _ _ _ => by simp [lay] at h
  | n + 1, _, _, h, .tup e _ r => .tup (SqT.of e) (repl_dp n (by simpa [lay] using h) r)
  | 0, _, _, h, .lst _ _ _ => by simp [lay] at h
  | n + 1, _, _, h, .lst e _ r => .lst (SqL.of e) (repl_dp n (by simpa [lay] using h) r)
  | _, _, _, h, .fz _ => by simp [lay] at h
  | _, _, _, h, .dct _ _ _ => by simp [lay] at h
  | _, _, _, h, .dcT _ _ _ => by simp [lay] at h
theorem repl_dp {K : PySem.W.Frag} {H : Hp} {B : Dom} : ∀ (n : Nat) {p : List P} {v : List V}, lays n p = true → RepL K H B p v → DpAll K H v (pys p)
  | _, _, _, _, .nil => .nil
  | n, _, _, h, .cons a b => by
    simp only [lays, Bool.and_eq_true] at h
    exact .cons (rep_dp n h.1 a) (repl_dp n h.2 b)
end
theorem repA_dp {K : PySem.W.Frag} {H : Hp} {B : Dom} {p : P} {v : V} (hl : lay 16 p = true) (h : RepA K H B p v) : Dp K H v p.py ∧ SeqAt.shaped p.py = true := by
  obtain ⟨h1, h2⟩ := lay_ok 16 p hl
  refine ⟨?_, by unfold SeqAt.shaped; rw [h1]; simp only [Bool.true_and, decide_eq_true_eq]; omega⟩
  cases h with
  | rep h => exact rep_dp 16 hl h
  | lst e r => exact .lst (SqL.of e) (repl_dp 15 (by simpa [lay] using hl) r)
  | dct e r => simp [lay] at hl
  | dcT e r => simp [lay] at hl
theorem op_eqP (hu : X.A.units + 64 < cLine) : OpR X (compareOp .Eq) (r2P X.K eqP) := by
  refine OpR.imp (op_eqD hu) fun x y H Q ⟨B, p, q, z, al, hp, hq, e, k⟩ => ?_
  unfold eqP at e
  split at e
  · rename_i h
    cases e
    rw [Bool.and_eq_true] at h
    obtain ⟨d1, s1⟩ := repA_dp h.1 hp
    obtain ⟨d2, s2⟩ := repA_dp h.2 hq
    refine ⟨p.py, q.py, d1, d2, s1, s2, ?_⟩
    rw [eqB_py 16 p q h.1 h.2]
    exact k _ H (fun _ _ h => h) (.bl _)
  · cases e
theorem op_neP (hu : X.A.units + 64 < cLine) : OpR X (compareOp .NotEq) (r2P X.K neP) := by
  refine OpR.imp (op_neD hu) fun x y H Q ⟨B, p, q, z, al, hp, hq, e, k⟩ => ?_
  unfold neP at e
  split at e
  · rename_i h
    cases e
    rw [Bool.and_eq_true] at h
    obtain ⟨d1, s1⟩ := repA_dp h.1 hp
    obtain ⟨d2, s2⟩ := repA_dp h.2 hq
    refine ⟨p.py, q.py, d1, d2, s1, s2, ?_⟩
    rw [eqB_py 16 p q h.1 h.2]
    exact k _ H (fun _ _ h => h) (.bl _)
  · cases e
theorem repA_non {K : PySem.W.Frag} {H : Hp} {B : Dom} {p : P} {v : V} (h : RepA K H B p v) (n : p ≠ .non) : v ≠ .non := by
  rintro rfl
  cases h with
  | rep h => cases h; exact n rfl
theorem op_isP : OpR X (compareOp .Is) (r2P X.K isP) := by
  refine OpR.imp (op_isN.or op_is_bl) fun x y H Q ⟨B, p, q, z, al, hp, hq, e, k⟩ => ?_
  unfold isP at e
  split at e
  · cases e
    obtain rfl := hp.non
    obtain rfl := hq.non
    exact .inl ⟨rfl, k _ H (fun _ _ h => h) (.bl _)⟩
  · rename_i h
    cases e
    obtain rfl := hq.non
    refine .inl ⟨rfl, ?_⟩
    rw [decide_eq_false (repA_non hp h)]
    exact k _ H (fun _ _ h => h) (.bl _)
  · cases e
    obtain rfl := hp.bl
    obtain rfl := hq.bl
    exact .inr ⟨_, _, rfl, rfl, k _ H (fun _ _ h => h) (.bl _)⟩
  · cases e
theorem op_isNotP : OpR X (compareOp .IsNot) (r2P X.K isNotP) := by
  refine OpR.imp (op_notN.or op_isnot_bl) fun x y H Q ⟨B, p, q, z, al, hp, hq, e, k⟩ => ?_
  unfold isNotP at e
  split at e
  · cases e
    obtain rfl := hp.non
    obtain rfl := hq.non
    exact .inl ⟨rfl, k _ H (fun _ _ h => h) (.bl _)⟩
  · rename_i h
    cases e
    obtain rfl := hq.non
    refine .inl ⟨rfl, ?_⟩
    rw [decide_eq_false (repA_non hp h)]
    exact k _ H (fun _ _ h => h) (.bl _)
  · cases e
    obtain rfl := hp.bl
    obtain rfl := hq.bl
    exact .inr ⟨_, _, rfl, rfl, k _ H (fun _ _ h => h) (.bl _)⟩
  · cases e
end
end Z

end
section
namespace Z
open PySem PySem.Spec PyProof.Rows L2
section
variable {X : Cx} {W : WX}
/-! ### places, slices -/
theorem RepL.atI {K : PySem.W.Frag} {H : Hp} {B : Dom} {xs : List P} {vs : List V} {i : Int} {x : P} (r : RepL K H B xs vs) (e : L2.atI xs i = some x) : ∃ v, L2.atI vs i = some v ∧ Rep K H B x v := by
  unfold L2.atI at e ⊢
  rw [← r.length]
  cases q : ixN xs.length i with
  | none => rw [q] at e; cases e
  | some j => rw [q] at e; exact r.get' e
theorem atI_ints {ns : List Int} {i j : Int} (e : L2.atI ns i = some j) : L2.atI (ns.map V.int) i = some (.int j) := by
  unfold L2.atI at e ⊢
  rw [List.length_map]
  cases q : ixN ns.length i with
  | none => rw [q] at e; cases e
  | some k =>
    rw [q] at e
    have e : ns[k]? = some j := e
    show (ns.map V.int)[k]? = _
    rw [List.getElem?_map, e]; rfl
theorem ix_P : IxR X (r2P X.K idxP) := by
  refine IxR.imp ix_seq fun x y H Q ⟨B, p, q, z, al, hp, hq, e, k⟩ => ?_
  unfold idxP at e
  split at e
  · obtain ⟨a, vs, rfl, h1, n1, r1⟩ := hp.tup
    obtain rfl := hq.int
    obtain ⟨v, e1, rv⟩ := r1.atI e
    exact .inr (.inl ⟨a, vs, _, v, rfl, rfl, SqT.of h1, e1, k _ H (fun _ _ h => h) rv⟩)
  · obtain ⟨a, vs, rfl, h1, r1⟩ := hp.lstI
    obtain rfl := hq.int
    obtain ⟨v, e1, rv⟩ := r1.atI e
    exact .inl ⟨a, vs, _, v, rfl, rfl, SqL.of h1, e1, k _ H (fun _ _ h => h) rv⟩
  · obtain ⟨a, rfl, h1⟩ := hp.fz
    obtain rfl := hq.int
    obtain ⟨j, e1, rfl⟩ := Option.map_eq_some_iff.mp e
    exact .inl ⟨a, _, _, _, rfl, rfl, h1, atI_ints e1, k _ H (fun _ _ h => h) (.int _)⟩
  · obtain rfl := hp.str
    obtain rfl := hq.int
    split at e
    · rename_i hl
      obtain ⟨c, e1, rfl⟩ := Option.map_eq_some_iff.mp e
      exact .inr (.inr ⟨_, _, c, rfl, rfl, hl, e1, k _ H (fun _ _ h => h) (.str _)⟩)
    · cases e
  · cases e
theorem RepL.cut {K : PySem.W.Frag} {H : Hp} {B : Dom} {xs : List P} {vs : List V} {lo hi : Option Int} (r : RepL K H B xs vs) : RepL K H B (cutP xs lo hi) (cutV vs lo hi) := by
  unfold cutP cutV
  rw [← r.length]
  exact (r.drop _).take _
theorem cut_whole {α : Type} {xs : List α} {lo hi : Option Int} (h : HT.sIx xs.length 0 lo = 0 ∧ HT.sIx xs.length xs.length hi = xs.length) : cutP xs lo hi = xs := by
  unfold cutP
  rw [h.1, h.2, List.drop_zero, Nat.sub_zero, List.take_length]
theorem TOx {K : PySem.W.Frag} {mg : Str → Option Value} : True := trivial
def TOe (K : PySem.W.Frag) (mg : Str → Option Value) (W : WX) (m : Option EM) : TO := fun σ H Q => ∃ F ρ env S, Rl K H F ρ S ∧ RE K H F ρ env σ ∧
  Ans (evO m env S) (fun o S' => ∀ H' ρ', Xt H ρ H' ρ' → Rl K H' F ρ' S' → Q o H') (KX1 K mg H F ρ σ W)
abbrev DO (X : Cx) (W : WX) (e : Option Expr) (m : Option EM) : Prop := PO X e (TOe X.K X.mg W m)
theorem PO.imp {X : Cx} {e : Option Expr} {t t' : TO} (h : PO X e t) (i : ∀ σ H Q, t' σ H Q → t σ H Q) : PO X e t' := ⟨fun pins s σ H Q I q => h.run pins s σ H Q I (i σ H Q q)⟩
theorem do_none : DO X W none none := PO.imp po_none fun σ H Q ⟨F, ρ, env, S, r, e, h⟩ => (show ∀ H' ρ', Xt H ρ H' ρ' → Rl X.K H' F ρ' S → Q none H' from h) H ρ Xt.refl r
theorem do_some {e : Expr} {m : EM} (he : DE X W e m) : DO X W (some e) (some m) := by
  refine PO.imp (po_some he) fun σ H Q ⟨F, ρ, env, S, r, e, h⟩ => ?_
  unfold evO at h
  refine ⟨F, ρ, env, S, r, e, h.bnd.imp (fun d S1 h1 v H1 ρ1 x1 r1 v1 => ?_) fun _ _ q => q⟩
  obtain ⟨i, e1, h2⟩ := h1.opt
  match d, e1, v1 with
  | .p (.int j), e1, v1 =>
    cases e1
    cases v1
    exact ⟨i, rfl, (show ∀ H' ρ', Xt H ρ H' ρ' → Rl X.K H' F ρ' S1 → Q (some i) H' from h2) H1 ρ1 x1 r1⟩
theorem de_slice {e : Expr} {lo hi : Option Expr} {m : EM} {ml mh : Option EM} {p2 pos : Pos} (he : DE X W e m) (hl : DO X W lo ml) (hh : DO X W hi mh) : DE X W (.Subscript e (.Slice lo hi none p2) pos) (mSl m ml mh) := by
  refine PE.imp (pe_slice (sl_tupA.or sl_list) he hl hh) fun σ H Q ⟨F, ρ, env, S, r, e, h⟩ => ?_
  unfold mSl at h
  refine ⟨F, ρ, env, S, r, e, h.bnd.imp (fun d S1 h1 v H1 ρ1 x1 r1 v1 => ?_) fun _ _ q => q⟩
  refine ⟨F, ρ1, env, S1, r1, e.xt x1, h1.bnd.imp (fun l S2 h2 H2 ρ2 x2 r2 => ?_) fun _ _ q => q.xt x1⟩
  refine ⟨F, ρ2, env, S2, r2, (e.xt x1).xt x2, h2.bnd.imp (fun u S3 h3 H3 ρ3 x3 r3 => ?_) fun _ _ q => q.xt (x1.trans x2)⟩
  obtain ⟨x, e1, h3⟩ := h3.opt
  obtain ⟨z, e2, h3⟩ := h3.opt
  have ra := deref_rep r3 ((v1.xt x2).xt x3) e1
  have k := fin_op r3 (KV1.xt ((x1.trans x2).trans x3) h3)
  cases x with
  | tup xs =>
    cases e2
    obtain ⟨a, vs, rfl, g1, n1, r1⟩ := ra.tup
    refine .inl ⟨a, vs, rfl, SqT.of g1, fun w => ?_, fun _ p np => k _ _ (Same.upd np) (rep_new np r3.al r1.cut)⟩
    rw [cut_whole (by rw [r1.length]; exact w)] at k
    exact k _ H3 (fun _ _ h => h) (.tup g1 n1 r1)
  | lst xs =>
    cases e2
    obtain ⟨a, vs, rfl, g1, r1⟩ := ra.lstI
    exact .inr ⟨a, vs, rfl, SqL.of g1, fun p np => k _ _ (Same.upd np) (.lst upd_same (fun q => r3.al p q np) (r1.cut.mono (fun b u e _ => Same.upd np b u e) fun b q => .inl q))⟩
  | _ => cases e2

/-! ### built-ins -/
theorem call_lenP : CallR X (.builtin "len") (rnP X.K lenP) := by
  refine CallR.imp (call_len_seq.or call_len_str) fun xs H Q ⟨B, ps, z, al, hp, e, k⟩ => ?_
  unfold lenP at e
  split at e
  · cases e
    cases hp with
    | cons h t =>
      cases t
      obtain ⟨a, vs, rfl, h1, n1, r1⟩ := h.tup
      exact .inl ⟨a, vs, rfl, .inr (SqT.of h1), by rw [← r1.length]; exact k _ H (fun _ _ h => h) (.int _)⟩
  · cases e
    cases hp with
    | cons h t =>
      cases t
      obtain ⟨a, vs, rfl, h1, r1⟩ := h.lstI
      exact .inl ⟨a, vs, rfl, .inl (SqL.of h1), by rw [← r1.length]; exact k _ H (fun _ _ h => h) (.int _)⟩
  · cases e
    cases hp with
    | cons h t =>
      cases t
      obtain ⟨a, rfl, h1⟩ := h.fz
      exact .inl ⟨a, _, rfl, .inl h1, by rw [List.length_map]; exact k _ H (fun _ _ h => h) (.int _)⟩
  · split at e
    · rename_i hl
      cases e
      cases hp with
      | cons h t =>
        cases t
        obtain rfl := h.str
        exact .inr ⟨_, rfl, hl, k _ H (fun _ _ h => h) (.int _)⟩
    · cases e
  · cases e
theorem intsOf_map : ∀ {xs : List P} {is : List Int}, intsOf xs = some is → xs = is.map P.int
  | [], is, h => by cases h; rfl
  | .int i :: xs, is, h => by
    unfold intsOf at h
    obtain ⟨js, e1, h⟩ := Option.bind_eq_some_iff.mp h
    cases h
    rw [intsOf_map e1]; rfl
  | .non :: _, _, h => by cases h
  | .bl _ :: _, _, h => by cases h
  | .str _ :: _, _, h => by cases h
  | .tup _ :: _, _, h => by cases h
  | .lst _ :: _, _, h => by cases h
  | .fz _ :: _, _, h => by cases h
  | .dct _ :: _, _, h => by cases h
  | .dcT _ :: _, _, h => by cases h
theorem bolsOf_map : ∀ {xs : List P} {is : List Bool}, bolsOf xs = some is → xs = is.map P.bl
  | [], is, h => by cases h; rfl
  | .bl i :: xs, is, h => by
    unfold bolsOf at h
    obtain ⟨js, e1, h⟩ := Option.bind_eq_some_iff.mp h
    cases h
    rw [bolsOf_map e1]; rfl
  | .non :: _, _, h => by cases h
  | .int _ :: _, _, h => by cases h
  | .str _ :: _, _, h => by cases h
  | .tup _ :: _, _, h => by cases h
  | .lst _ :: _, _, h => by cases h
  | .fz _ :: _, _, h => by cases h
  | .dct _ :: _, _, h => by cases h
  | .dcT _ :: _, _, h => by cases h
theorem preSum_getD (ns : List Int) : ∀ j, j ≤ ns.length → preSum (fun i => ns.getD i 0) j = (ns.take j).sum
  | 0, _ => by simp [preSum]
  | j + 1, h => by
    rw [preSum, preSum_getD ns j (by omega), List.take_add_one, List.sum_append, List.getD_eq_getElem?_getD, List.getElem?_eq_getElem (by omega)]
    simp
theorem cr_sumT (hc : X.calm = true) : CallR X (.builtin "sum") (fun vs H Q => ∃ (a : Addr) (ns : List Int), vs = [V.ref a] ∧ SqT X.K H a (ns.map V.int) ∧ Q (.int ns.sum) H) := by
  intro pins s σ H vs us Q I r h
  obtain ⟨a, ns, rfl, hs, q⟩ := h
  obtain ⟨its, rv, hl, _⟩ := I.tuple hs
  rw [Vals.ref1 r]
  have pT : s.heap.IsTuple a its.toArray := hl
  have hlt : a < s.heap.objs.size := by obtain ⟨_, e, _⟩ := pT; exact Heap.lt_size e
  refine call_sum_walkG (wpAny_pyIter_tuple pT ?_)
  have hlen : its.length = ns.length := by rw [← rv.length, List.length_map]
  refine ⟨_, _, _, _, _, _, fun i => ns.getD i 0, rfl, Walks.tuple (A := X.A.in1) (I.ok.hd hc) _ a (Nat.ne_of_lt hlt) its.toArray, ⟨⟨_, Heap.get?_push_size _ rfl, rfl, rfl⟩, pT.at fun o e => Heap.get?_push_of_some _ e⟩, fun b hb => ?_, fun i v hv => ?_, fun h' tk t' hk => ?_⟩
  · show b < (s.heap.push _).objs.size
    rw [Heap.size_push]
    rcases (show b = s.heap.objs.size ∨ b = a by simpa using hb) with z | z
    · rw [z]; exact Nat.lt_succ_self _
    · rw [z]; exact Nat.lt_succ_of_lt hlt
  · have hv' : its[i]? = some v := by simpa using hv
    have hi : i < ns.length := by rw [← hlen]; exact (List.getElem?_eq_some_iff.mp hv').1
    obtain ⟨u, hu, ru⟩ := rv.get (i := i) (x := .int ns[i]) (by simp [hi])
    rw [hv'] at hu; cases hu
    obtain ⟨t, rfl⟩ := ru
    exact ⟨t, by simp [hi]⟩
  · refine ⟨.int ns.sum, H, ?_, ⟨t', ?_⟩, q⟩
    · exact I.kept fun b o e => hk b o (by simp only [List.mem_singleton]; exact Nat.ne_of_lt (Heap.lt_size e)) (Heap.get?_push_of_some _ e)
    · have : its.toArray.size = ns.length := by simpa using hlen
      rw [this, preSum_getD ns ns.length (Nat.le_refl _), List.take_length]
theorem call_sumP (hc : X.calm = true) : CallR X (.builtin "sum") (rnP X.K sumP) := by
  refine CallR.imp ((cr_sumT hc).or (cr_sum hc)) fun xs H Q ⟨B, ps, z, al, hp, e, k⟩ => ?_
  unfold sumP at e
  split at e
  · obtain ⟨is, e1, e⟩ := Option.bind_eq_some_iff.mp e
    cases e
    rw [intsOf_map e1] at hp
    cases hp with
    | cons h t =>
      cases t
      obtain ⟨a, vs, rfl, h1, n1, r1⟩ := h.tup
      rw [r1.ints] at h1
      exact .inl ⟨a, is, rfl, SqT.of h1, k _ H (fun _ _ h => h) (.int _)⟩
  · obtain ⟨is, e1, e⟩ := Option.bind_eq_some_iff.mp e
    cases e
    rw [intsOf_map e1] at hp
    cases hp with
    | cons h t =>
      cases t
      obtain ⟨a, vs, rfl, h1, r1⟩ := h.lstI
      rw [r1.ints] at h1
      exact .inr ⟨a, is, rfl, SqL.of h1, k _ H (fun _ _ h => h) (.int _)⟩
  · cases e
theorem call_allP (hc : X.calm = true) : CallR X (.builtin "all") (rnP X.K allP) := by
  refine CallR.imp (cr_all hc) fun xs H Q ⟨B, ps, z, al, hp, e, k⟩ => ?_
  unfold allP at e
  split at e
  · obtain ⟨is, e1, e⟩ := Option.bind_eq_some_iff.mp e
    cases e
    rw [bolsOf_map e1] at hp
    cases hp with
    | cons h t =>
      cases t
      obtain ⟨a, vs, rfl, h1, r1⟩ := h.lstI
      rw [r1.bls] at h1
      exact ⟨a, is, rfl, SqL.of h1, k _ H (fun _ _ h => h) (.bl _)⟩
  · cases e
theorem call_anyP (hc : X.calm = true) : CallR X (.builtin "any") (rnP X.K anyP) := by
  refine CallR.imp (cr_any hc) fun xs H Q ⟨B, ps, z, al, hp, e, k⟩ => ?_
  unfold anyP at e
  split at e
  · obtain ⟨is, e1, e⟩ := Option.bind_eq_some_iff.mp e
    cases e
    rw [bolsOf_map e1] at hp
    cases hp with
    | cons h t =>
      cases t
      obtain ⟨a, vs, rfl, h1, r1⟩ := h.lstI
      rw [r1.bls] at h1
      exact ⟨a, is, rfl, SqL.of h1, k _ H (fun _ _ h => h) (.bl _)⟩
  · cases e
theorem call_minP (hc : X.calm = true) : CallR X (.builtin "min") (rnP X.K minP) := by
  refine CallR.imp (call_min2 hc) fun xs H Q ⟨B, ps, z, al, hp, e, k⟩ => ?_
  unfold minP at e
  split at e
  · cases e
    cases hp with
    | cons h t => cases t with
      | cons h2 t =>
        cases t
        obtain rfl := h.int
        obtain rfl := h2.int
        exact ⟨_, _, rfl, k _ H (fun _ _ h => h) (.int _)⟩
  · cases e
theorem call_maxP (hc : X.calm = true) : CallR X (.builtin "max") (rnP X.K maxP) := by
  refine CallR.imp (call_max2 hc) fun xs H Q ⟨B, ps, z, al, hp, e, k⟩ => ?_
  unfold maxP at e
  split at e
  · cases e
    cases hp with
    | cons h t => cases t with
      | cons h2 t =>
        cases t
        obtain rfl := h.int
        obtain rfl := h2.int
        exact ⟨_, _, rfl, k _ H (fun _ _ h => h) (.int _)⟩
  · cases e
theorem call_tupleP : CallR X (.type "tuple") (rnP X.K tupleP) := by
  refine CallR.imp call_tuple_of fun xs H Q ⟨B, ps, z, al, hp, e, k⟩ => ?_
  unfold tupleP at e
  split at e
  · cases e
    cases hp with
    | cons h t =>
      cases t
      obtain ⟨a, vs, rfl, h1, n1, r1⟩ := h.tup
      exact ⟨a, vs, rfl, .inr ⟨SqT.of h1, k _ H (fun _ _ h => h) (.tup h1 n1 r1)⟩⟩
  · cases e
    cases hp with
    | cons h t =>
      cases t
      obtain ⟨a, vs, rfl, h1, r1⟩ := h.lstI
      exact ⟨a, vs, rfl, .inl ⟨SqL.of h1, fun p np => k _ _ (Same.upd np) (rep_new np al r1)⟩⟩
  · cases e
theorem call_listP : CallR X (.type "list") (rnP X.K listP) := by
  refine CallR.imp call_list_of fun xs H Q ⟨B, ps, z, al, hp, e, k⟩ => ?_
  unfold listP at e
  split at e
  · cases e
    cases hp with
    | cons h t =>
      cases t
      obtain ⟨a, vs, rfl, h1, n1, r1⟩ := h.tup
      exact ⟨a, vs, rfl, .inr (SqT.of h1), fun p np => k _ _ (Same.upd np) (.lst upd_same (fun q => al p q np) (r1.mono (fun b u e _ => Same.upd np b u e) fun b q => .inl q))⟩
  · cases e
    cases hp with
    | cons h t =>
      cases t
      obtain ⟨a, vs, rfl, h1, r1⟩ := h.lstI
      exact ⟨a, vs, rfl, .inl (SqL.of h1), fun p np => k _ _ (Same.upd np) (.lst upd_same (fun q => al p q np) (r1.mono (fun b u e _ => Same.upd np b u e) fun b q => .inl q))⟩
  · cases e
theorem call_intP : CallR X (.type "int") (rnP X.K intP) := by
  refine CallR.imp call_int1 fun xs H Q ⟨B, ps, z, al, hp, e, k⟩ => ?_
  unfold intP at e
  split at e
  · cases e
    cases hp with
    | cons h t => cases t; obtain rfl := h.int; exact .inl ⟨_, rfl, k _ H (fun _ _ h => h) (.int _)⟩
  · cases e
    cases hp with
    | cons h t => cases t; obtain rfl := h.bl; exact .inr ⟨_, rfl, k _ H (fun _ _ h => h) (.int _)⟩
  · cases e

/-! ### isinstance -/
theorem ty_rep {K : PySem.W.Frag} {H : Hp} {B : Dom} {p : P} {v : V} {T : String} (h : RepA K H B p v) (e : tyP p = some T) : TyX K H v (.type T) := by
  refine .base ?_
  cases p with
  | non => cases e; obtain rfl := h.non; exact .non
  | bl b => cases e; obtain rfl := h.bl; exact .bl b
  | int b => cases e; obtain rfl := h.int; exact .int b
  | str b => cases e; obtain rfl := h.str; exact .str b
  | tup xs => cases e; obtain ⟨a, vs, rfl, h1, _⟩ := h.tup; exact .tup h1
  | lst xs => cases e; obtain ⟨a, vs, rfl, h1, _⟩ := h.lstI; exact .lst h1
  | fz ns => cases e
  | dct ns => cases e
  | dcT ns => cases e
theorem kit_all : ∀ T ∈ ["NoneType", "bool", "int", "str", "tuple", "list"], ∀ U ∈ ["bool", "int", "str", "tuple", "list"], kitB T U = isiT T U := by decide +kernel
theorem de_isi {e : Expr} {m : EM} {U : Str} {T : String} {p p2 pos : Pos} (he : DE X W e m) (hm : X.mg "isinstance" = none) (hU : X.mg U = none) (hbU : bootBuiltins U = some (.type T)) (hgU : Gl X U := by rfl) (hg : Gl X "isinstance" := by rfl) (hnU : U ≠ "__name__" := by decide) (hdU : (U == ("__debug__" : Str)) = false := by decide)
    (h1 : starEach (.Name U p2 :: []) X.env = (false, eval (.Name U p2) X.env) :: starEach [] X.env := by rfl) (h2 : starEach (e :: [.Name U p2]) X.env = (false, eval e X.env) :: starEach [.Name U p2] X.env := by rfl)
    (hpl : (backTo pos (starEach [.Name U p2] X.env)).any (·.1) = false := by rfl) : DE X W (.Call (.Name "isinstance" p) [e, .Name U p2] [] pos) (mP1 (isiQ T) m) := by
  have hT : PE X (.Name U p2) (tC (.ty T)) := pe_bltn hgU hU hbU rfl hnU hdU
  refine PE.imp (pe_callB call_isi hg hm (by decide +kernel) (pa_cons he (pa_cons hT pa_nil h1) h2) (by decide) (by decide) h2 hpl) fun σ H Q ⟨F, ρ, env, S, r, e, h⟩ => ?_
  unfold mP1 at h
  refine ⟨F, ρ, env, S, r, e, h.bnd.imp (fun d S1 h1 v H1 ρ1 x1 r1 v1 => ?_) fun _ _ q => q⟩
  obtain ⟨x, e1, h2⟩ := h1.opt
  obtain ⟨z, e2, h2⟩ := h2.opt
  obtain ⟨T', e3, e2⟩ := Option.bind_eq_some_iff.mp e2
  have hT'in : T' ∈ ["NoneType", "bool", "int", "str", "tuple", "list"] := by
    cases x <;> first | (cases e3; simp) | cases e3
  split at e2
  · rename_i hin
    obtain ⟨b, e4, e2⟩ := Option.bind_eq_some_iff.mp e2
    cases e2
    refine ⟨v, .ty T, .type T', .type T, b, rfl, .ty T, ty_rep (deref_rep r1 v1 e1) e3, kit_ty ?_, fin_op r1 (KV1.xt x1 h2) _ H1 (fun _ _ h => h) (.bl b)⟩
    rw [kit_all T' hT'in T (by simpa using hin)]
    exact e4
  · cases e2

/-! ### zip, ranges, chains -/
theorem zipL_get : ∀ {xs ys : List P} {i : Nat} {p : P}, (zipL xs ys)[i]? = some p → ∃ x y, xs[i]? = some x ∧ ys[i]? = some y ∧ p = .tup [x, y]
  | [], _, _, _, h => by simp [zipL] at h
  | _ :: _, [], _, _, h => by simp [zipL] at h
  | x :: xs, y :: ys, 0, p, h => by
    simp only [zipL, List.getElem?_cons_zero] at h
    cases h; exact ⟨x, y, rfl, rfl, rfl⟩
  | x :: xs, y :: ys, i + 1, p, h => by
    simp only [zipL, List.getElem?_cons_succ] at h
    obtain ⟨a, b, h1, h2, h3⟩ := zipL_get h
    exact ⟨a, b, by simpa using h1, by simpa using h2, h3⟩
theorem zipL_length : ∀ {xs ys : List P}, (zipL xs ys).length = min xs.length ys.length
  | [], _ => by simp [zipL]
  | _ :: _, [] => by simp [zipL]
  | x :: xs, y :: ys => by simp only [zipL, List.length_cons, zipL_length]; omega
theorem itok_zipT {K : PySem.W.Frag} {H0 : Hp} {B0 : Dom} {a b : Addr} {vs ws : List V} {xs ys : List P} (h : H0 a = some (.tup vs)) (n : ¬ B0 a) (r : RepL K H0 B0 xs vs) (h' : H0 b = some (.tup ws)) (n' : ¬ B0 b) (r' : RepL K H0 B0 ys ws) : ItOk K H0 B0 (RZ.ItzT K a b) (zipL xs ys) := by
  have l1 := r.length
  have l2 := r'.length
  refine ⟨fun i H k hi => ?_, fun i H k hi => ?_, fun i H x H' p k e y => ?_⟩
  · rw [zipL_length] at hi
    exact ⟨vs, ws, vs[i]'(by omega), ws[i]'(by omega), SqT.of (k a _ h n), SqT.of (k b _ h' n'), List.getElem?_eq_getElem _, List.getElem?_eq_getElem _⟩
  · rw [zipL_length] at hi
    exact ⟨vs, ws, SqT.of (k a _ h n), SqT.of (k b _ h' n'), by omega⟩
  · obtain ⟨T, z, z', rfl, nT, rfl, y1, y2⟩ := y
    obtain ⟨q, q', e1, e2, rfl⟩ := zipL_get e
    obtain ⟨v, hv, rv⟩ := r.get' e1
    obtain ⟨v', hv', rv'⟩ := r'.get' e2
    have t1 := y1 vs (SqT.of (k a _ h n))
    have t2 := y2 ws (SqT.of (k b _ h' n'))
    rw [hv] at t1; cases t1
    rw [hv'] at t2; cases t2
    exact ⟨Same.upd nT, fun B hb al => rep_new nT al (.cons (rv.kp k hb) (.cons (rv'.kp k hb) .nil))⟩
theorem itok_zipL {K : PySem.W.Frag} {H0 : Hp} {B0 : Dom} {a b : Addr} {vs ws : List V} {xs ys : List P} (h : H0 a = some (.lst vs)) (n : ¬ B0 a) (r : RepL K H0 B0 xs vs) (h' : H0 b = some (.lst ws)) (n' : ¬ B0 b) (r' : RepL K H0 B0 ys ws) : ItOk K H0 B0 (Itz K a b) (zipL xs ys) := by
  have l1 := r.length
  have l2 := r'.length
  refine ⟨fun i H k hi => ?_, fun i H k hi => ?_, fun i H x H' p k e y => ?_⟩
  · rw [zipL_length] at hi
    exact ⟨vs, ws, vs[i]'(by omega), ws[i]'(by omega), SqL.of (k a _ h n), SqL.of (k b _ h' n'), List.getElem?_eq_getElem _, List.getElem?_eq_getElem _⟩
  · rw [zipL_length] at hi
    exact ⟨vs, ws, SqL.of (k a _ h n), SqL.of (k b _ h' n'), by omega⟩
  · obtain ⟨T, z, z', rfl, nT, rfl, y1, y2⟩ := y
    obtain ⟨q, q', e1, e2, rfl⟩ := zipL_get e
    obtain ⟨v, hv, rv⟩ := r.get' e1
    obtain ⟨v', hv', rv'⟩ := r'.get' e2
    have t1 := y1 vs (SqL.of (k a _ h n))
    have t2 := y2 ws (SqL.of (k b _ h' n'))
    rw [hv] at t1; cases t1
    rw [hv'] at t2; cases t2
    exact ⟨Same.upd nT, fun B hb al => rep_new nT al (.cons (rv.kp k hb) (.cons (rv'.kp k hb) .nil))⟩
theorem di_zip {e e2 : Expr} {m m2 : EM} {p pos tpos : Pos} {elts : List Expr} {kk : Nat} (hm : X.mg "zip" = none) (he : DE X W e m) (he2 : DE X W e2 m2) (hg : Gl X "zip" := by rfl)
    (hs : starEach [e, e2] X.env = (false, eval e X.env) :: starEach [e2] X.env := by rfl) (hs2 : starEach [e2] X.env = (false, eval e2 X.env) :: starEach [] X.env := by rfl) (hpl : (backTo pos (starEach [e2] X.env)).any (·.1) = false := by rfl) :
    DI X W (.Tuple elts kk tpos) (.Call (.Name "zip" p) [e, e2] [] pos) (iZipM m m2) := by
  have ha : DA X W [e, e2] [m, m2] := da_cons he (da_cons he2 da_nil hs2) hs
  refine PI.imp (RZ.pi_zipA hg hm ha hs hpl) fun σ H R ⟨F, ρ, env, S, r, e, h⟩ => ?_
  unfold iZipM at h
  refine tax_two r e (h.bnd.imp (fun d S1 h1 => h1.bnd.imp (fun d2 S2 h2 v w H' ρ' x r' v1 w1 => ?_) fun _ _ q => q) fun _ _ q => q)
  split at h2
  · obtain ⟨a, vs, rfl, g1, g2, g3⟩ := RepA.tup (.rep v1)
    obtain ⟨b, ws, rfl, f1, f2, f3⟩ := RepA.tup (.rep w1)
    exact ⟨a, b, vs, ws, rfl, .inr ⟨SqT.of g1, SqT.of f1, h2 _ H' ρ' x r' (itok_zipT g1 g2 g3 f1 f2 f3)⟩⟩
  · obtain ⟨a, vs, rfl, g1, g2, g3⟩ := Rep.lstI v1
    obtain ⟨b, ws, rfl, f1, f2, f3⟩ := Rep.lstI w1
    exact ⟨a, b, vs, ws, rfl, .inl ⟨SqL.of g1, SqL.of f1, h2 _ H' ρ' x r' (itok_zipL g1 g2 g3 f1 f2 f3)⟩⟩
  · exact h2.elim
theorem chain_of {K : PySem.W.Frag} {mg : Str → Option Value} {f g : P → P → Option P} {ma mb mc : EM} {σ : L2.St} {H : Hp} {Q : VK} (h : TEx K mg W (mChain f g ma mb mc) σ H Q) : tChain (r2P K f) (r2P K g) (TEx K mg W ma) (TEx K mg W mb) (TEx K mg W mc) σ H Q := by
  obtain ⟨F, ρ, env, S, r, e, h⟩ := h
  unfold mChain at h
  refine ⟨F, ρ, env, S, r, e, h.bnd.imp (fun d S1 h1 v H1 ρ1 x1 r1 v1 => ?_) fun _ _ q => q⟩
  refine ⟨F, ρ1, env, S1, r1, e.xt x1, h1.bnd.imp (fun d2 S2 h2 u H2 ρ2 x2 r2 u2 => ?_) fun _ _ q => q.xt x1⟩
  obtain ⟨p, e1, h2⟩ := h2.opt
  obtain ⟨q, e2, h2⟩ := h2.opt
  split at h2
  · rename_i e3
    refine ⟨Bd F ρ2, p, q, _, r2.al, deref_rep r2 (v1.xt x2) e1, deref_rep r2 u2 e2, e3, fun v3 H3 s3 rep3 => ?_⟩
    cases rep3
    refine ⟨true, rfl, ?_⟩
    have x3 : Xt H2 ρ2 H3 ρ2 := Xt.grow s3
    rw [if_pos rfl]
    refine ⟨F, ρ2, env, S2, r2.grow s3, ((e.xt x1).xt x2).xt x3, h2.bnd.imp (fun d4 S4 h4 w4 H4 ρ4 x4 r4 v4 => ?_) fun _ _ q => q.xt ((x1.trans x2).trans x3)⟩
    obtain ⟨q', e4, h4⟩ := h4.opt
    obtain ⟨t, e5, h4⟩ := h4.opt
    obtain ⟨z, e6, h4⟩ := h4.opt
    exact ⟨Bd F ρ4, q', t, z, r4.al, deref_rep r4 ((u2.xt x3).xt x4) e4, deref_rep r4 v4 e5, e6, fin_op r4 (KV1.xt (((x1.trans x2).trans x3).trans x4) h4)⟩
  · rename_i e3
    refine ⟨Bd F ρ2, p, q, _, r2.al, deref_rep r2 (v1.xt x2) e1, deref_rep r2 u2 e2, e3, fun v3 H3 s3 rep3 => ?_⟩
    cases rep3
    refine ⟨false, rfl, ?_⟩
    rw [if_neg Bool.false_ne_true]
    exact KV1.xt (x1.trans x2) (show KV1 K H F ρ Q (.p (.bl false)) S2 from h2) _ H3 ρ2 (Xt.grow s3) (r2.grow s3) (.bl false)
  · exact h2.elim
end
end Z
namespace Z
open PySem PySem.Spec PyProof.Rows L2
section
variable {X : Cx} {W : WX}
theorem de_chain {op op' : CmpOp} {f g : P → P → Option P} {a b c : Expr} {ma mb mc : EM} {pos : Pos} (ho : OpR X (compareOp op) (r2P X.K f)) (ho' : OpR X (compareOp op') (r2P X.K g)) (ha : DE X W a ma) (hb : DE X W b mb) (hc : DE X W c mc)
    (hm : lastMarks [op, op'] [b, c] = false := by with_unfolding_all rfl) : DE X W (.Compare a [op, op'] [b, c] pos) (mChain f g ma mb mc) :=
  PE.imp (pe_chain ho ho' ha hb hc hm) fun σ H Q h => chain_of h
theorem dt_chain {op op' : CmpOp} {f g : P → P → Option P} {a b c : Expr} {ma mb mc : EM} {pos : Pos} (ho : OpR X (compareOp op) (r2P X.K f)) (ho' : OpR X (compareOp op') (r2P X.K g)) (ha : DE X W a ma) (hb : DE X W b mb) (hc : DE X W c mc)
    (hm : lastMarks [op, op'] [b, c] = false := by with_unfolding_all rfl) : DT X W (.Compare a [op, op'] [b, c] pos) (tB (mChain f g ma mb mc)) :=
  PT.imp (pt_chain ho ho' ha hb hc hm) fun σ H Q h => chain_of (tB_tx h)
end
/-! ### the law's own promise -/
def sp0 (K : PySem.W.Frag) (f : Fn) (n : Nat) : Sp := fun vs H Q _ => vs.length = n ∧ ∃ F ρ S ds, Rl K H F ρ S ∧ RVs K H F ρ ds vs ∧
  Ans (f ds S) (fun d S' => ∀ v H', Xt H ρ H' ρ → Rl K H' F ρ S' → RV K H' F ρ d v → Q v H') (fun _ _ => False)
theorem law_mk {P : Program} {w : World} {K : PySem.W.Frag} {mg : Str → Option Value} {base : Heap} {k : Nat} {fa : Addr} {fd : FuncData} {ps : List Str} {f : Fn} {n : Nat} (h : FnOk P w K mg base (L2.CX P w) k fa fd ps (spF K mg f n)) :
    FnOk P w K mg base (L2.CX P w) k fa fd ps (sp0 K f n) :=
  h.imp fun vs H Q E ⟨hl, F, ρ, S, ds, r, rv, a⟩ => ⟨hl, F, ρ, S, ds, r, rv, a.imp (fun _ _ q => q) fun _ _ q => q.elim⟩
theorem law_sp {K : PySem.W.Frag} {f : Fn} {H : Hp} {a : Addr} {ns : List Int} (hO : Only H) (hS : SqL K H a (ns.map V.int)) (h : f [.p (.fz ns)] [] = some (.ok (.p (.bl true)), [])) : sp0 K f 1 [.ref a] H (fun v _ => v = .bl true) fun _ _ _ => False := by
  refine ⟨rfl, fun _ => False, [], [], [.p (.fz ns)], ⟨rfl, fun i j a e => by simp at e, fun b q => by rcases q with q | q <;> simp at q, fun i a e => by simp at e, fun i a o e => by simp at e, fun i o e => by simp at e⟩, .cons (.fz ?_) .nil, ?_⟩
  · rcases hS with (h | ⟨o, h⟩) | h
    · rcases hO a with z | ⟨o, xs, z⟩
      · rw [z] at h; cases h
      · rw [z] at h; cases h
    · exact .inl ⟨o, h, fun q => by rcases q with q | q <;> simp at q⟩
    · exact .inr h
  · rw [h]
    intro v H' _ _ rv
    cases rv; rfl
end Z
namespace Z
open PySem PySem.Spec PyProof.Rows L2
theorem no_exc {P : Program} {w : World} {H : Hp} {s : Shared} {e : Value} {s' : Shared} (h : L2.CX P w [] H s (fun _ _ _ => False) e s') : False := by
  obtain ⟨_, _, _, _, _, _, _, _, _, _, _, _, z⟩ := h
  exact z
end Z

end
section
namespace Z
open PySem PySem.Spec PyProof.Rows L2
/-! ### dicts -/
def inDP : P → P → Option P
  | x, .dct kvs => (keyOf x).bind fun k => some (.bl (valP kvs k).isSome)
  | _, _ => none
def notInDP : P → P → Option P
  | x, .dct kvs => (keyOf x).bind fun k => some (.bl (!(valP kvs k).isSome))
  | _, _ => none
def dgetP : P → P → Option P
  | .dct kvs, x => (keyOf x).bind fun k => valP kvs k
  | _, _ => none
@[simp] theorem inDP_d (x : P) (kvs : List (Key × P)) : inDP x (.dct kvs) = (keyOf x).bind fun k => some (.bl (valP kvs k).isSome) := rfl
@[simp] theorem notInDP_d (x : P) (kvs : List (Key × P)) : notInDP x (.dct kvs) = (keyOf x).bind fun k => some (.bl (!(valP kvs k).isSome)) := rfl
@[simp] theorem dgetP_d (x : P) (kvs : List (Key × P)) : dgetP (.dct kvs) x = (keyOf x).bind fun k => valP kvs k := rfl
theorem hu1 {n m : Nat} (h : n + 64 < m) : n + 1 < m := by omega
section
variable {X : Cx} {W : WX}
theorem keyA {K : PySem.W.Frag} {H : Hp} {B : Dom} {x : P} {v : V} {k : Key} (h : RepA K H B x v) (e : keyOf x = some k) : v = kV k := by
  cases h with
  | rep h => exact key_rep h e
  | lst h1 h2 => cases e
  | dct h1 h2 => cases e
  | dcT h1 h2 => cases e
theorem pc_inD {i o : Expr} {mi mo : EM} (hu : X.A.units + 1 < cLine) (hi : DE X W i mi) (ho : DE X W o mo) : PC X .In i o (TEx X.K X.mg W (mP2 inDP mi mo)) := by
  refine ⟨fun pins s σ H Q I h => (pc_din hu hi ho).run pins s σ H Q I ?_⟩
  obtain ⟨F, ρ, env, S, r, e, h⟩ := h
  unfold mP2 at h
  refine ⟨F, ρ, env, S, r, e, h.bnd.imp (fun d S1 h1 v H1 ρ1 x1 r1 v1 => ?_) fun _ _ q => q⟩
  refine ⟨F, ρ1, env, S1, r1, e.xt x1, h1.bnd.imp (fun d2 S2 h2 v2 H2 ρ2 x2 r2 w2 => ?_) fun _ _ q => q.xt x1⟩
  obtain ⟨p, e1, h2⟩ := h2.opt
  obtain ⟨q, e2, h2⟩ := h2.opt
  obtain ⟨z, e3, h2⟩ := h2.opt
  have hp := deref_rep r2 (v1.xt x2) e1
  have hq := deref_rep r2 w2 e2
  unfold inDP at e3
  split at e3
  · rename_i kvs
    obtain ⟨k, e4, e3⟩ := Option.bind_eq_some_iff.mp e3
    cases e3
    obtain ⟨a, vs, rfl, g1, g2⟩ := hq.dctI
    obtain rfl := keyA hp e4
    refine ⟨a, _, rfl, .inl ⟨_, _, g1, rfl, rfl⟩, ?_⟩
    rcases g2.val (k := k) with ⟨q1, q2⟩ | ⟨x, w, q1, q2, _⟩
    · rw [q1] at h2; rw [q2]; exact fin_op r2 (KV1.xt (x1.trans x2) h2) _ _ Same.rfl' (.bl _)
    · rw [q1] at h2; rw [q2]; exact fin_op r2 (KV1.xt (x1.trans x2) h2) _ _ Same.rfl' (.bl _)
  · cases e3
theorem pc_notInD {i o : Expr} {mi mo : EM} (hu : X.A.units + 1 < cLine) (hi : DE X W i mi) (ho : DE X W o mo) : PC X .NotIn i o (TEx X.K X.mg W (mP2 notInDP mi mo)) := by
  refine ⟨fun pins s σ H Q I h => (pc_dnotin hu hi ho).run pins s σ H Q I ?_⟩
  obtain ⟨F, ρ, env, S, r, e, h⟩ := h
  unfold mP2 at h
  refine ⟨F, ρ, env, S, r, e, h.bnd.imp (fun d S1 h1 v H1 ρ1 x1 r1 v1 => ?_) fun _ _ q => q⟩
  refine ⟨F, ρ1, env, S1, r1, e.xt x1, h1.bnd.imp (fun d2 S2 h2 v2 H2 ρ2 x2 r2 w2 => ?_) fun _ _ q => q.xt x1⟩
  obtain ⟨p, e1, h2⟩ := h2.opt
  obtain ⟨q, e2, h2⟩ := h2.opt
  obtain ⟨z, e3, h2⟩ := h2.opt
  have hp := deref_rep r2 (v1.xt x2) e1
  have hq := deref_rep r2 w2 e2
  unfold notInDP at e3
  split at e3
  · rename_i kvs
    obtain ⟨k, e4, e3⟩ := Option.bind_eq_some_iff.mp e3
    cases e3
    obtain ⟨a, vs, rfl, g1, g2⟩ := hq.dctI
    obtain rfl := keyA hp e4
    refine ⟨a, _, rfl, .inl ⟨_, _, g1, rfl, rfl⟩, ?_⟩
    rcases g2.val (k := k) with ⟨q1, q2⟩ | ⟨x, w, q1, q2, _⟩
    · rw [q1] at h2; rw [q2]; exact fin_op r2 (KV1.xt (x1.trans x2) h2) _ _ Same.rfl' (.bl _)
    · rw [q1] at h2; rw [q2]; exact fin_op r2 (KV1.xt (x1.trans x2) h2) _ _ Same.rfl' (.bl _)
  · cases e3
theorem de_dget {o i : Expr} {mo mi : EM} {pos : Pos} (hu : X.A.units + 1 < cLine) (ho : DE X W o mo) (hi : DE X W i mi) (hs : NoSl i := by intro _ _; rfl) : DE X W (.Subscript o i pos) (mP2 dgetP mo mi) := by
  refine PE.imp (pe_dget hu ho hi hs) fun σ H Q ⟨F, ρ, env, S, r, e, h⟩ => ?_
  unfold mP2 at h
  refine ⟨F, ρ, env, S, r, e, h.bnd.imp (fun d S1 h1 v H1 ρ1 x1 r1 v1 => ?_) fun _ _ q => q⟩
  refine ⟨F, ρ1, env, S1, r1, e.xt x1, h1.bnd.imp (fun d2 S2 h2 v2 H2 ρ2 x2 r2 w2 => ?_) fun _ _ q => q.xt x1⟩
  obtain ⟨p, e1, h2⟩ := h2.opt
  obtain ⟨q, e2, h2⟩ := h2.opt
  obtain ⟨z, e3, h3⟩ := h2.opt
  have hp := deref_rep r2 (v1.xt x2) e1
  have hq := deref_rep r2 w2 e2
  unfold dgetP at e3
  split at e3
  · obtain ⟨k, e4, e3⟩ := Option.bind_eq_some_iff.mp e3
    obtain ⟨a, vs, rfl, g1, g2⟩ := hp.dctI
    obtain rfl := keyA hq e4
    rcases g2.val (k := k) with ⟨q1, q2⟩ | ⟨y, w, q1, q2, q3⟩
    · rw [q1] at e3; cases e3
    · rw [q1] at e3
      cases e3
      exact ⟨a, w, rfl, by rw [← q2]; exact .inl ⟨_, _, g1, rfl, rfl⟩, fin_op r2 (KV1.xt (x1.trans x2) h3) _ _ Same.rfl' q3⟩
  · cases e3
/-- {k: v} -/
def mDisp1 (mk mv : EM) : EM := fun env S => bnd (mk env (S ++ [.pd []])) fun kv S1 => bnd (mv env S1) fun v S2 => match kv, v, S2[S.length]? with
  | .p kp, .p x, some (.pd []) => (keyOf kp).bind fun k => some (.ok (.ref S.length), S2.set S.length (.pd [(k, x)]))
  | _, _, _ => none
theorem de_disp1 {k v : Expr} {mk mv : EM} {pos : Pos} (hk : DE X W k mk) (hv : DE X W v mv) : DE X W (.Dict [some k] [v] pos) (mDisp1 mk mv) := by
  refine PE.imp (pe_disp (pps_cons hk hv pps_nil) rfl rfl (by simp) (by simp)) fun σ H Q ⟨F, ρ, env, S, r, e, h⟩ p np => ?_
  have px : Xt H ρ (upd H p (.dK [])) (ρ ++ [some p]) := push_xt np
  have r0 : Rl X.K (upd H p (.dK [])) F (ρ ++ [some p]) (S ++ [.pd []]) := push_rl r np ⟨[], upd_same, .nil⟩
  have hp0 : (ρ ++ [some p])[S.length]? = some (some p) := by rw [← r.len, List.getElem?_append_right (Nat.le_refl _), Nat.sub_self]; rfl
  unfold mDisp1 at h
  refine ⟨F, ρ ++ [some p], env, S ++ [.pd []], r0, e.xt px, h.bnd.imp (fun d S1 h1 v H1 ρ1 x1 r1 v1 => ?_) fun _ _ q => q.xt px⟩
  refine ⟨F, ρ1, env, S1, r1, (e.xt px).xt x1, h1.bnd.imp (fun d2 S2 h2 v2 H2 ρ2 x2 r2 w2 => ?_) fun _ _ q => q.xt (px.trans x1)⟩
  split at h2
  · rename_i kp x q
    obtain ⟨k, e4, h2⟩ := h2.opt
    have v0 : RV X.K (upd H p (.dK [])) F (ρ ++ [some p]) (.ref S.length) (.ref p) := ⟨by rw [← r.len]; simp, fun a ha => by rw [hp0] at ha; cases ha; rfl⟩
    obtain ⟨a, ha, ea, vs, g1, g2⟩ := thing_lst r2 ((v0.xt x1).xt x2) q (by simp)
    cases ea
    cases g2
    obtain rfl := key_rep (Rep.xt x2 v1) e4
    have y := write_xt (H := H2) (ho := .dK [(k, v2)]) ha
    refine ⟨g1, [(k, v2)], rfl, by simp, ?_⟩
    exact (show KV1 X.K H F ρ Q (.ref S.length) (S2.set S.length (.pd [(k, x)])) from h2) (.ref p) _ ρ2 (((px.trans x1).trans x2).trans y) (write_rl r2 ha ⟨_, upd_same, (RepD.nil (K := X.K)).put (k := k) (Rep.xt y w2)⟩) (((v0.xt x1).xt x2).xt y)
  · exact h2.elim
end
end Z

end
section
namespace Z
open PySem PySem.Spec PyProof.Rows L2
/-! ### sorted(list) -/
def tup1B : PyData → Bool
  | .tuple (_ :: _) => true
  | _ => false
def flatB : PyData → Bool
  | .none => false
  | .tuple _ => false
  | _ => true
def sortOk (xs : List P) : Bool := lays 15 xs && ((xs.map P.py).all fun d => (xs.map P.py).all fun e => PySem.W.alike d e) && ((xs.map P.py).all tup1B || (xs.map P.py).all flatB) && decide (xs.length ≤ 1000000)
def sortedP : List P → Option P
  | [.lst xs] => if sortOk xs = true then some (.lst (xs.mergeSort (PySem.W.dataLe false P.py))) else none
  | _ => none
section
variable {X : Cx} {W : WX}
theorem each_of {K : PySem.W.Frag} {H : Hp} {B : Dom} : ∀ {xs : List P} {vs : List V} {us : List Value}, RepL K H B xs vs → Vals vs us → PySem.W.EachIs (fun u p => ∃ v, RelV v u ∧ Rep K H B p v) us xs
  | _, _, _, .nil, r => by cases r; exact .nil
  | _, _, _, .cons a b, r => by
    cases r with
    | cons h t => exact .cons ⟨_, h, a⟩ (each_of b t)
theorem each_back {K : PySem.W.Frag} {H : Hp} {B : Dom} : ∀ {xs : List P} {us : List Value}, PySem.W.EachIs (fun u p => ∃ v, RelV v u ∧ Rep K H B p v) us xs → ∃ vs, RepL K H B xs vs ∧ Vals vs us
  | _, _, .nil => ⟨[], .nil, .nil⟩
  | _, _, .cons h t => by
    obtain ⟨v, h1, h2⟩ := h
    obtain ⟨vs, h3, h4⟩ := each_back t
    exact ⟨v :: vs, .cons h2 h3, .cons h1 h4⟩
theorem each_reads {pins : List (Addr × Obj)} {s : Shared} {σ : L2.St} {H : Hp} {B : Dom} (I : Inv X pins σ H s) : ∀ {xs : List P} {us : List Value}, lays 15 xs = true → PySem.W.EachIs (fun u p => ∃ v, RelV v u ∧ Rep X.K H B p v) us xs → PySem.W.EachIs (fun u p => ∃ as, Reads s.heap u p.py as) us xs
  | _, _, _, .nil => .nil
  | _, _, hl, .cons h t => by
    simp only [lays, Bool.and_eq_true] at hl
    obtain ⟨v, h1, h2⟩ := h
    exact .cons (Dp.reads I _ v _ (rep_dp 15 hl.1 h2) h1) (each_reads I hl.2 t)
theorem call_sortedP (hu : X.A.units + 64 < cLine) : CallR X (.builtin "sorted") (rnP X.K sortedP) := by
  intro pins s σ H vs us Q I r h
  obtain ⟨B, ps, z, al, hps, e, k⟩ := h
  unfold sortedP at e
  split at e
  · rename_i xs
    split at e
    · rename_i hok
      cases e
      cases hps with
      | cons h1 h2 =>
      cases h2
      obtain ⟨a, ws, rfl, ha, rl⟩ := h1.lstI
      obtain ⟨its, rv, hl, hz⟩ := I.list (SqL.of ha)
      rw [Vals.ref1 r]
      simp only [sortOk, Bool.and_eq_true, Bool.or_eq_true, decide_eq_true_eq] at hok
      obtain ⟨⟨⟨o1, o2⟩, o3⟩, o4⟩ := hok
      have eo := each_of rl rv
      refine PySem.W.sorted_data (enc := P.py) (R := fun u p => ∃ v, RelV v u ∧ Rep X.K H B p v) hl.isList eo (each_reads I o1 eo) ?_ ?_ (Nat.le_trans o4 (by rw [sizeLine_eq]; decide)) ?_ fun out hlen ho => ?_
      · intro d hd d' hd'
        exact List.all_eq_true.mp (List.all_eq_true.mp o2 d hd) d' hd'
      · rcases o3 with o3 | o3
        · refine .inl fun d hd => ?_
          have := List.all_eq_true.mp o3 d hd
          unfold tup1B at this
          split at this
          · exact ⟨_, _, rfl⟩
          · cases this
        · refine .inr fun d hd => ?_
          have := List.all_eq_true.mp o3 d hd
          refine ⟨?_, ?_⟩
          · rintro rfl; cases this
          · rintro xs rfl; cases this
      · intro p hp
        have hd := (lay_ok 15 p (by
          have : ∀ {ys : List P}, lays 15 ys = true → p ∈ ys → lay 15 p = true := fun {ys} => by
            induction ys with
            | nil => intro _ h; cases h
            | cons y ys ih =>
              intro h hm
              simp only [lays, Bool.and_eq_true] at h
              rcases List.mem_cons.mp hm with q | q
              · rw [q]; exact h.1
              · exact ih h.2 q
          exact this o1 hp)).2
        omega
      · obtain ⟨ys, q1, q2⟩ := each_back ho
        obtain ⟨ep, he'⟩ := PyProof.Rows.sortedAll_at s.heap its out.toArray
        have hn := I.hok.fresh (Nat.le_succ s.heap.objs.size)
        have hlen2 : ys.length ≤ sizeLine := by
          rw [← q1.length, List.length_mergeSort]
          exact Nat.le_trans o4 (by rw [sizeLine_eq]; decide)
        refine ⟨.ref _, upd H (s.heap.objs.size + 1) (.lst ys), I.laid (t' := s.toks) (fun _ _ => PyProof.Rows.sortedAll_old) (Nat.le_succ _) ⟨hlen2, out, ep, q2, he'⟩, rfl, ?_⟩
        exact k _ _ (Same.upd hn) (.lst upd_same (fun q => al _ q hn) (q1.mono (fun b u e _ => Same.upd hn b u e) fun b q => .inl q))
    · cases e
  · cases e
end
end Z

end
section
namespace Z
open PySem PySem.Spec PyProof.Rows L2
/-! ### x in a list, a tuple -/
def inP : P → P → Option P
  | x, .lst ys => if (lay 16 x && lay 16 (.lst ys)) = true then some (.bl (ys.any fun z => eqB z x)) else none
  | x, .tup ys => if (lay 16 x && lay 16 (.tup ys)) = true then some (.bl (ys.any fun z => eqB z x)) else none
  | _, _ => none
def notInP : P → P → Option P
  | x, .lst ys => if (lay 16 x && lay 16 (.lst ys)) = true then some (.bl (!ys.any fun z => eqB z x)) else none
  | x, .tup ys => if (lay 16 x && lay 16 (.tup ys)) = true then some (.bl (!ys.any fun z => eqB z x)) else none
  | _, _ => none
theorem lay_up : ∀ (n : Nat) (p : P), lay n p = true → lay (n + 1) p = true := by
  intro n
  induction n with
  | zero => intro p h; cases p <;> simp_all [lay]
  | succ n ih =>
    intro p h
    have hs : ∀ xs : List P, lays n xs = true → lays (n + 1) xs = true := fun xs => by
      induction xs with
      | nil => intro _; rfl
      | cons y ys ih2 =>
        intro h
        simp only [lays, Bool.and_eq_true] at h ⊢
        exact ⟨ih y h.1, ih2 h.2⟩
    cases p with
    | tup xs => simp only [lay] at h ⊢; exact hs xs h
    | lst xs => simp only [lay] at h ⊢; exact hs xs h
    | _ => simp_all [lay]
theorem any_py (p : P) (hp : lay 16 p = true) : ∀ ys : List P, lays 15 ys = true → ((pys ys).any fun z => PyData.eqv z p.py) = ys.any fun z => eqB z p
  | [], _ => rfl
  | y :: ys, h => by
    simp only [lays, Bool.and_eq_true] at h
    simp only [pys, List.any_cons]
    rw [eqB_py 16 y p (lay_up 15 y h.1) hp, any_py p hp ys h.2]
section
variable {X : Cx} {W : WX}
theorem op_inP (hu : X.A.units + 64 < cLine) : OpR X (compareOp .In) (r2P X.K inP) := by
  intro pins s σ H x y v u Q I rx ry h
  obtain ⟨B, p, q, z, al, hp, hq, e, k⟩ := h
  unfold inP at e
  split at e
  · split at e
    · rename_i ys hl
      cases e
      rw [Bool.and_eq_true] at hl
      obtain ⟨as, r1⟩ := Dp.reads I _ x v (repA_dp hl.1 hp).1 rx
      obtain ⟨bs, r2⟩ := Dp.reads I _ y u (repA_dp hl.2 hq).1 ry
      have l1 := lay_ok 16 p hl.1
      have l2 := lay_ok 16 _ hl.2
      refine SeqAt.in_list_reads r2 r1 (by simpa [P.py, PyData.canLay0] using l2.1) l1.1 (by omega) ⟨.bl _, H, I, rfl, ?_⟩
      rw [any_py p hl.1 ys (by simpa [lay] using hl.2)]
      exact k _ H (fun _ _ h => h) (.bl _)
    · cases e
  · split at e
    · rename_i ys hl
      cases e
      rw [Bool.and_eq_true] at hl
      obtain ⟨as, r1⟩ := Dp.reads I _ x v (repA_dp hl.1 hp).1 rx
      obtain ⟨bs, r2⟩ := Dp.reads I _ y u (repA_dp hl.2 hq).1 ry
      have l1 := lay_ok 16 p hl.1
      have l2 := lay_ok 16 _ hl.2
      refine SeqAt.in_tuple_reads r2 r1 (by simpa [P.py, PyData.canLay0] using l2.1) l1.1 (by omega) ⟨.bl _, H, I, rfl, ?_⟩
      rw [any_py p hl.1 ys (by simpa [lay] using hl.2)]
      exact k _ H (fun _ _ h => h) (.bl _)
    · cases e
  · cases e
theorem op_notinP (hu : X.A.units + 64 < cLine) : OpR X (compareOp .NotIn) (r2P X.K notInP) := by
  intro pins s σ H x y v u Q I rx ry h
  obtain ⟨B, p, q, z, al, hp, hq, e, k⟩ := h
  unfold notInP at e
  split at e
  · split at e
    · rename_i ys hl
      cases e
      rw [Bool.and_eq_true] at hl
      obtain ⟨as, r1⟩ := Dp.reads I _ x v (repA_dp hl.1 hp).1 rx
      obtain ⟨bs, r2⟩ := Dp.reads I _ y u (repA_dp hl.2 hq).1 ry
      have l1 := lay_ok 16 p hl.1
      have l2 := lay_ok 16 _ hl.2
      refine SeqAt.notIn_list_reads r2 r1 (by simpa [P.py, PyData.canLay0] using l2.1) l1.1 (by omega) ⟨.bl _, H, I, rfl, ?_⟩
      rw [any_py p hl.1 ys (by simpa [lay] using hl.2)]
      exact k _ H (fun _ _ h => h) (.bl _)
    · cases e
  · split at e
    · rename_i ys hl
      cases e
      rw [Bool.and_eq_true] at hl
      obtain ⟨as, r1⟩ := Dp.reads I _ x v (repA_dp hl.1 hp).1 rx
      obtain ⟨bs, r2⟩ := Dp.reads I _ y u (repA_dp hl.2 hq).1 ry
      have l1 := lay_ok 16 p hl.1
      have l2 := lay_ok 16 _ hl.2
      refine SeqAt.notIn_tuple_reads r2 r1 (by simpa [P.py, PyData.canLay0] using l2.1) l1.1 (by omega) ⟨.bl _, H, I, rfl, ?_⟩
      rw [any_py p hl.1 ys (by simpa [lay] using hl.2)]
      exact k _ H (fun _ _ h => h) (.bl _)
    · cases e
  · cases e
end
end Z

end
section
namespace Z
open PySem PySem.Spec PyProof.Rows L2
/-! ### l.index(x) of a plain list -/
def mIdxOf (mo me : EM) : EM := fun env S => bnd (mo env S) fun v S1 => match v with
  | .p (.lst ys) => bnd (me env S1) fun u S2 => (deref S2 u).bind fun x => if (lay 16 x && lay 16 (.lst ys)) = true then
      (ys.findIdx? fun z => eqB z x).bind fun j => ret1 (.int (j : Int)) S2 else none
  | _ => none
theorem hu65 {k : Nat} {A : Around} (r : Room k A) : A.units + 65 < cLine := by have := r.un; omega
theorem pys_get : ∀ (ys : List P) (j : Nat), (pys ys)[j]? = (ys[j]?).map P.py
  | [], j => by simp [pys]
  | y :: ys, 0 => by simp [pys]
  | y :: ys, j + 1 => by simp [pys, pys_get ys j]
theorem lays_get {n : Nat} : ∀ {ys : List P} {j : Nat} {y : P}, lays n ys = true → ys[j]? = some y → lay n y = true
  | [], j, y, _, h => by simp at h
  | x :: ys, 0, y, hl, h => by simp only [lays, Bool.and_eq_true] at hl; simp at h; rw [← h]; exact hl.1
  | x :: ys, j + 1, y, hl, h => by simp only [lays, Bool.and_eq_true] at hl; exact lays_get hl.2 (by simpa using h)
section
variable {X : Cx} {W : WX}
theorem de_idxOf {c : Expr} {mo me : EM} (h : PE X c (tBM X.K "list" (rIndexD X.K) (TEx X.K X.mg W mo) (TAx X.K X.mg W [me]))) : DE X W c (mIdxOf mo me) := by
  refine PE.imp h fun σ H Q ⟨F, ρ, env, S, r, e, h⟩ => ?_
  unfold mIdxOf at h
  refine ⟨F, ρ, env, S, r, e, h.bnd.imp (fun d S1 h1 v H1 ρ1 x1 r1 v1 => ?_) fun _ _ q => q⟩
  split at h1
  · rename_i ys
    obtain ⟨a, vs, rfl, g1, g2, g3⟩ := Rep.lstI v1
    refine ⟨ty_list g1, tax_one ⟨F, ρ1, env, S1, r1, e.xt x1, h1.bnd.imp (fun u S2 h2 w H2 ρ2 x2 r2 w2 => ?_) fun _ _ q => q.xt x1⟩⟩
    obtain ⟨x, e1, h2⟩ := h2.opt
    split at h2
    · rename_i hl
      rw [Bool.and_eq_true] at hl
      obtain ⟨j, e2, h3⟩ := h2.opt
      have hx := repA_dp hl.1 (deref_rep r2 w2 e1)
      have hy := repA_dp (B := Bd F ρ2) hl.2 (.rep (Rep.xt x2 v1))
      have hls : lays 15 ys = true := by simpa [lay] using hl.2
      obtain ⟨hj, p1, p2⟩ := List.findIdx?_eq_some_iff_getElem.mp e2
      refine ⟨a, w, x.py, pys ys, j, (ys[j]).py, rfl, rfl, hy.1, hx.1, hy.2, hx.2, by rw [pys_get, List.getElem?_eq_getElem hj]; rfl, ?_, fun m z' hm hz => ?_, ?_⟩
      · rw [eqB_py 16 _ x (lay_up 15 _ (lays_get hls (List.getElem?_eq_getElem hj))) hl.1]; exact p1
      · have hmj : m < ys.length := by omega
        rw [pys_get, List.getElem?_eq_getElem hmj] at hz
        cases hz
        rw [eqB_py 16 _ x (lay_up 15 _ (lays_get hls (List.getElem?_eq_getElem hmj))) hl.1]
        exact Bool.eq_false_iff.mpr (p2 m hm)
      · exact fin_op r2 (KV1.xt (x1.trans x2) h3) _ _ Same.rfl' (.int _)
    · exact h2.elim
  · exact h1.elim
end
end Z

end
section
namespace Z
open PySem L2

/-! ### loops, by what holds between the turns -/
theorem forL_inv {t : Tg} {b : SM} {cl : List Nat} (I : Nat → Env → List O → Prop) : ∀ (xs : List P) (k : Nat) (env : Env) (S : List O), I k env S →
    (∀ i x e S, xs[i]? = some x → I (k + i) e S → ∃ e1 e2 S2, asg t x e = some e1 ∧ (b e1 S = some (.nx e2, S2) ∨ b e1 S = some (.ct e2, S2)) ∧ I (k + i + 1) (clr cl e2) S2) →
    ∃ e' S', forL t b cl xs env S = some (.nx e', S') ∧ I (k + xs.length) e' S'
  | [], k, env, S, h0, _ => ⟨env, S, rfl, h0⟩
  | x :: xs, k, env, S, h0, hs => by
    obtain ⟨e1, e2, S2, h1, h2, h3⟩ := hs 0 x env S rfl h0
    obtain ⟨e', S', h4, h5⟩ := forL_inv I xs (k + 1) (clr cl e2) S2 h3 fun i y e T hy hI => by
      have := hs (i + 1) y e T (by simpa using hy) (by rw [show k + (i + 1) = k + 1 + i by omega]; exact hI)
      rw [show k + (i + 1) = k + 1 + i by omega] at this
      exact this
    refine ⟨e', S', ?_, by rw [List.length_cons, show k + (xs.length + 1) = k + 1 + xs.length by omega]; exact h5⟩
    unfold forL
    rw [h1]
    rcases h2 with h2 | h2
    · simp only [Option.bind_some, h2, h4]
    · simp only [Option.bind_some, h2, h4]
/-- a loop that goes through: its state is a function of a plain one -/
theorem forL_fold {α β : Type} {t : Tg} {b : SM} {cl : List Nat} (f : β → P) (en : α → Env) (st : α → List O) (step : α → β → α) (h : ∀ a x, ∃ e1 e2, asg t (f x) (en a) = some e1 ∧ b e1 (st a) = some (.nx e2, st (step a x)) ∧ clr cl e2 = en (step a x)) :
    ∀ (xs : List β) (a : α), forL t b cl (xs.map f) (en a) (st a) = some (.nx (en (xs.foldl step a)), st (xs.foldl step a))
  | [], a => rfl
  | x :: xs, a => by
    obtain ⟨e1, e2, h1, h2, h3⟩ := h a x
    rw [List.map_cons]
    unfold forL
    rw [h1]
    simp only [Option.bind_some, h2, h3, List.foldl_cons]
    exact forL_fold f en st step h xs (step a x)
theorem forL_nil {t : Tg} {b : SM} {cl : List Nat} {env : Env} {S : List O} : forL t b cl [] env S = some (.nx env, S) := rfl
theorem forL_cons {t : Tg} {b : SM} {cl : List Nat} {x : P} {xs : List P} {env : Env} {S : List O} : forL t b cl (x :: xs) env S = (asg t x env).bind fun e => match b e S with
    | some (.nx e', S') => forL t b cl xs (clr cl e') S'
    | some (.ct e', S') => forL t b cl xs (clr cl e') S'
    | some (.bk e', S') => some (.nx e', S')
    | r => r := rfl
/-- a comprehension without a test whose element is plain -/
theorem lcL_map {β : Type} {t : Tg} {e : EM} {env : Env} {S : List O} (f : β → P) (g : β → P) : ∀ (xs : List β) (acc : List P), (∀ x ∈ xs, ∃ en, asg t (f x) env = some en ∧ e en S = some (.ok (.p (g x)), S)) → acc.length + xs.length ≤ sizeLine →
    lcL t tYesM e env (xs.map f) acc S = some (.ok (.p (.lst (acc ++ xs.map g))), S)
  | [], acc, _, _ => by simp [lcL]
  | x :: xs, acc, h, hl => by
    obtain ⟨en, h1, h2⟩ := h x (by simp)
    rw [List.length_cons] at hl
    rw [List.map_cons]
    unfold lcL
    rw [h1]
    simp only [Option.bind_some, tYesM, h2]
    rw [if_pos (by omega), lcL_map f g xs (acc ++ [g x]) (fun y hy => h y (by simp [hy])) (by simp; omega)]
    simp
/-- .. with a test -/
theorem lcL_filter {β : Type} {t : Tg} {c : TM} {e : EM} {env : Env} {S : List O} (f : β → P) (q : β → Bool) (g : β → P) : ∀ (xs : List β) (acc : List P), (∀ x ∈ xs, ∃ en, asg t (f x) env = some en ∧ c en S = some (.ok (q x), S) ∧ (q x = true → e en S = some (.ok (.p (g x)), S))) → acc.length + xs.length ≤ sizeLine →
    lcL t c e env (xs.map f) acc S = some (.ok (.p (.lst (acc ++ (xs.filter q).map g))), S)
  | [], acc, _, _ => by simp [lcL]
  | x :: xs, acc, h, hl => by
    obtain ⟨en, h1, h2, h3⟩ := h x (by simp)
    rw [List.length_cons] at hl
    rw [List.map_cons]
    unfold lcL
    rw [h1]
    cases hq : q x with
    | true =>
      rw [hq] at h2
      simp only [Option.bind_some, h2, h3 hq]
      rw [if_pos (by omega), lcL_filter f q g xs (acc ++ [g x]) (fun y hy => h y (by simp [hy])) (by simp; omega)]
      simp [hq]
    | false =>
      rw [hq] at h2
      simp only [Option.bind_some, h2]
      rw [lcL_filter f q g xs acc (fun y hy => h y (by simp [hy])) (by omega)]
      simp [hq]
/-- a comprehension whose elements draw: the things change from turn to turn -/
theorem lcL_inv {t : Tg} {e : EM} {env : Env} (I : Nat → List P → List O → Prop) : ∀ (xs : List P) (k : Nat) (acc : List P) (S : List O), I k acc S → acc.length + xs.length ≤ sizeLine →
    (∀ i x acc S, xs[i]? = some x → I (k + i) acc S → ∃ en y S2, asg t x env = some en ∧ e en S = some (.ok (.p y), S2) ∧ I (k + i + 1) (acc ++ [y]) S2) →
    ∃ acc' S', lcL t tYesM e env xs acc S = some (.ok (.p (.lst acc')), S') ∧ I (k + xs.length) acc' S'
  | [], k, acc, S, h0, _, _ => ⟨acc, S, rfl, h0⟩
  | x :: xs, k, acc, S, h0, hl, hs => by
    obtain ⟨en, y, S2, h1, h2, h3⟩ := hs 0 x acc S rfl h0
    rw [List.length_cons] at hl
    obtain ⟨acc', S', h4, h5⟩ := lcL_inv I xs (k + 1) (acc ++ [y]) S2 h3 (by simp; omega) fun i y e T hy hI => by
      have := hs (i + 1) y e T (by simpa using hy) (by rw [show k + (i + 1) = k + 1 + i by omega]; exact hI)
      rw [show k + (i + 1) = k + 1 + i by omega] at this
      exact this
    refine ⟨acc', S', ?_, by rw [List.length_cons, show k + (xs.length + 1) = k + 1 + xs.length by omega]; exact h5⟩
    unfold lcL
    rw [h1]
    simp only [Option.bind_some, tYesM, h2]
    rw [if_pos (by omega), h4]

/-! ### data with a type -/
theorem sz {n : Nat} (h : n ≤ 1000000) : n ≤ sizeLine := Nat.le_trans h (by rw [sizeLine_eq]; decide)
theorem sz' {n : Nat} (h : n < 1000000) : n < sizeLine := Nat.lt_of_lt_of_le h (by rw [sizeLine_eq]; decide)
@[simp] theorem atI_0 {α : Type} (x : α) (xs : List α) : atI (x :: xs) 0 = some x := atI_nat (j := 0) rfl
@[simp] theorem atI_1 {α : Type} (x y : α) (xs : List α) : atI (x :: y :: xs) 1 = some y := atI_nat (j := 1) rfl
@[simp] theorem atI_2 {α : Type} (x y z : α) (xs : List α) : atI (x :: y :: z :: xs) 2 = some z := atI_nat (j := 2) rfl
abbrev Fact := Nat × Nat × Int
def factP (f : Fact) : P := .tup [.int f.1, .int f.2.1, .int f.2.2]
def factsP (fs : List Fact) : P := .tup (fs.map factP)
def shP (long : Nat) (m : Int) (fs : List Fact) : P := .tup [.int long, .int m, factsP fs]
def rowP (r : List Int) : P := .tup (r.map .int)
@[simp] theorem intsOf_int (ns : List Int) : intsOf (ns.map P.int) = some ns := by
  induction ns with
  | nil => rfl
  | cons n ns ih => simp [intsOf, ih]
@[simp] theorem bolsOf_bl (ns : List Bool) : bolsOf (ns.map P.bl) = some ns := by
  induction ns with
  | nil => rfl
  | cons n ns ih => simp [bolsOf, ih]
theorem cut_nat {α : Type} (xs : List α) (i j : Nat) : cutP xs (some (i : Int)) (some (j : Int)) = (xs.drop i).take (j - i) := by
  unfold cutP
  rw [HT.sIx_nat, HT.sIx_nat]
  by_cases h : i ≤ xs.length
  · rw [Nat.min_eq_left h]
    apply List.ext_getElem?
    intro k
    simp only [List.getElem?_take, List.getElem?_drop]
    by_cases hk : k < j - i
    · by_cases h2 : i + k < xs.length
      · rw [if_pos (by omega), if_pos hk]
      · rw [if_pos hk, List.getElem?_eq_none (by omega)]
        split <;> rfl
    · rw [if_neg (by omega), if_neg hk]
  · rw [List.drop_eq_nil_of_le (show xs.length ≤ min i xs.length by omega), List.drop_eq_nil_of_le (show xs.length ≤ i by omega), List.take_nil, List.take_nil]
theorem cut_to {α : Type} (xs : List α) (j : Nat) : cutP xs none (some (j : Int)) = xs.take j := by
  unfold cutP
  rw [HT.sIx_none, HT.sIx_nat, List.drop_zero, Nat.sub_zero]
  by_cases h : j ≤ xs.length
  · rw [Nat.min_eq_left h]
  · rw [Nat.min_eq_right (by omega), List.take_length, List.take_of_length_le (by omega)]
theorem cut_from {α : Type} (xs : List α) (i : Nat) : cutP xs (some (i : Int)) none = xs.drop i := by
  unfold cutP
  rw [HT.sIx_none, HT.sIx_nat]
  by_cases h : i ≤ xs.length
  · rw [Nat.min_eq_left h, List.take_of_length_le (by simp)]
  · rw [List.drop_eq_nil_of_le (show xs.length ≤ min i xs.length by omega), List.drop_eq_nil_of_le (show xs.length ≤ i by omega), List.take_nil]
@[simp high] theorem slice_row (r : List Int) (i j : Nat) : sliceP (rowP r) (some (i : Int)) (some (j : Int)) = some (rowP ((r.drop i).take (j - i))) := by
  simp [sliceP, rowP, cut_nat]
@[simp high] theorem slice_row_to (r : List Int) (j : Nat) : sliceP (rowP r) none (some (j : Int)) = some (rowP (r.take j)) := by
  simp [sliceP, rowP, cut_to]
@[simp high] theorem slice_row_from (r : List Int) (j : Nat) : sliceP (rowP r) (some (j : Int)) none = some (rowP (r.drop j)) := by
  simp [sliceP, rowP, cut_from]
@[simp high] theorem sum_row (r : List Int) : sumP [rowP r] = some (.int r.sum) := by simp [sumP, rowP]
@[simp high] theorem ix_sh0 (l : Nat) (m : Int) (fs : List Fact) : idxP (shP l m fs) (.int 0) = some (.int l) := by simp [idxP, shP]
@[simp high] theorem ix_sh1 (l : Nat) (m : Int) (fs : List Fact) : idxP (shP l m fs) (.int 1) = some (.int m) := by simp [idxP, shP]
@[simp high] theorem ix_sh2 (l : Nat) (m : Int) (fs : List Fact) : idxP (shP l m fs) (.int 2) = some (factsP fs) := by simp [idxP, shP]
@[simp high] theorem seq_facts (fs : List Fact) : seqP (factsP fs) = some (fs.map factP) := rfl
@[simp high] theorem seqQ_facts (fs : List Fact) : seqQ (factsP fs) = some (fs.map factP) := rfl
@[simp] theorem eqP_int (a b : Int) : eqP (.int a) (.int b) = some (.bl (decide (a = b))) := by
  simp [eqP, lay, eqB, Bool.beq_eq_decide_eq]
@[simp] theorem neP_int (a b : Int) : neP (.int a) (.int b) = some (.bl (!decide (a = b))) := by
  simp [neP, lay, eqB, Bool.beq_eq_decide_eq]
theorem atI_lt {α : Type} (xs : List α) (i : Nat) (h : i < xs.length) : atI xs (i : Int) = some xs[i] := atI_nat (List.getElem?_eq_getElem h)
/-- the list that counts the draws -/
def tw (n : Nat) : O := .pl (List.replicate n (.int 0))
@[simp] theorem tw_closed (n : Nat) : (tw n).closed = true := rfl
end Z

end
section
namespace Z
open PySem L2
/-! ### steps -/
theorem sSeq_nx {a b : SM} {env e : Env} {S S1 : List O} (h : a env S = some (.nx e, S1)) : sSeq a b env S = b e S1 := by
  unfold sSeq
  rw [h]
theorem run_of {k : Nat} {b : SM} {vs : List Val} {S S1 : List O} {x : P} (h : b (vs.map some ++ List.replicate (k - vs.length) none) S = some (.rt (.p x), S1)) (hc : closeO (S1.take S.length) = true) : runF k b vs S = some (.ok (.p x), S1.take S.length) := by
  unfold runF
  rw [h]
  simp [finish, hc]
theorem stm_some {α : Type} {env : Env} {a : α} {S : List O} {o : Out α} {f : α → List O → Option (Fl × List O)} (h : o = some (.ok a, S)) : stm env o f = f a S := by rw [h]; rfl
theorem for_it {t : Tg} {im : IM} {b : SM} {cl : List Nat} {env : Env} {S S1 : List O} {xs : List P} {r : Fl × List O} (h : im env S = some (.ok xs, S1)) (h2 : forL t b cl xs env S1 = some r) : sFor t im b cl env S = some r := (stm_some h).trans h2
/-- a whole def's run, by its body's -/
theorem run_p {k : Nat} {b : SM} {vs : List Val} {S S1 : List O} {x : P} {env : Env} (he : vs.map some ++ List.replicate (k - vs.length) none = env) (h : b env S = some (.rt (.p x), S1)) (hl : S1.length = S.length) (hc : closeO S1 = true) : runF k b vs S = some (.ok (.p x), S1) := by
  have ht : S1.take S.length = S1 := by rw [← hl, List.take_length]
  rw [run_of (by rw [he]; exact h) (by rw [ht]; exact hc), ht]
theorem forL_nx {t : Tg} {b : SM} {cl : List Nat} {x : P} {xs : List P} {env e1 e2 e3 : Env} {S S2 : List O} {R : Option (Fl × List O)} (h1 : asg t x env = some e1) (h2 : b e1 S = some (.nx e2, S2)) (h3 : clr cl e2 = e3) (h4 : forL t b cl xs e3 S2 = R) : forL t b cl (x :: xs) env S = R := by
  rw [forL_cons, h1, ← h4, ← h3]
  simp only [Option.bind_some, h2]
theorem rng_get {lo : Int} {n i : Nat} {x : P} (h : (rngL lo n)[i]? = some x) : i < n ∧ x = .int (lo + i) := by
  have h1 : i < n := by
    have := (List.getElem?_eq_some_iff.mp h).1
    simpa [rngL] using this
  refine ⟨h1, ?_⟩
  have : (rngL lo n)[i]? = some (.int (lo + i)) := by simp [rngL, h1]
  rw [this] at h
  exact (Option.some.inj h).symm
theorem rng_len (lo : Int) (n : Nat) : (rngL lo n).length = n := by simp [rngL]
theorem mcall_of {F : Fn} {ms : List EM} {env : Env} {S S1 : List O} {vs : List Val} {R : Out Val} (h : evs ms env S = some (.ok vs, S1)) (h2 : callV F vs S1 = R) : mCall F ms env S = R := by
  unfold mCall
  rw [h, bnd_ok, h2]
theorem ps_refs : ∀ us : List P, refsOf (us.map Val.p) = []
  | [] => rfl
  | u :: us => ps_refs us
theorem ps_renum : ∀ (k : Nat) (us : List P), renum k (us.map Val.p) = us.map Val.p
  | _, [] => rfl
  | k, u :: us => by rw [List.map_cons, renum, ps_renum k us]
/-- a call of what draws -/
theorem callV_tw {F : Fn} {x : P} {n n' : Nat} {ns : List Int} (us : List P) (h : F (.p (.fz ns) :: .ref 0 :: us.map Val.p) [tw n] = some (.ok (.p x), [tw n'])) : callV F (.p (.fz ns) :: .ref 0 :: us.map Val.p) [tw n] = some (.ok (.p x), [tw n']) := by
  simp only [callV, refsOf, ps_refs, renum, ps_renum, nodupB, List.contains_nil, Bool.not_false, Bool.and_self, if_true, gets, List.getElem?_cons_zero, Option.bind_some, tw_closed, h, puts, List.set_cons_zero]
/-- a call of what does not -/
theorem callV_ps {F : Fn} {x : P} {S : List O} (us : List P) (h : F (us.map Val.p) [] = some (.ok (.p x), [])) : callV F (us.map Val.p) S = some (.ok (.p x), S) := by
  simp only [callV, ps_refs, ps_renum, nodupB, if_true, gets, Option.bind_some, h, puts]
theorem asg_of {t : Tg} {m : EM} {env e1 : Env} {S S1 : List O} {x : P} (h : m env S = some (.ok (.p x), S1)) (h2 : asg t x env = some e1) : sAsg t m env S = some (.nx e1, S1) := by
  unfold sAsg
  rw [h, stm_ok]
  simp only [Val.pur, Option.bind_some, h2]
theorem set_of {i : Nat} {m : EM} {env : Env} {S S1 : List O} {v : Val} (h : m env S = some (.ok v, S1)) : sSet i m env S = some (.nx (env.set i (some v)), S1) := by
  unfold sSet
  rw [h, stm_ok]
end Z

end
section
namespace Z
open PySem L2
/-! ### the machine: expressions -/
section
variable {env : Env} {S S1 S2 S3 : List O} {v u : Val} {x y z p q r : P} {c : Str} {g : P → P → Option P}
theorem ev_var0 {o : Option Val} : mVar 0 (o :: env) S = (match o with | some d => some (.ok d, S) | none => none) := by
  cases o <;> rfl
theorem ev_var0s : mVar 0 (some v :: env) S = some (.ok v, S) := id rfl
theorem ev_varS {i : Nat} {o : Option Val} : mVar (i + 1) (o :: env) S = mVar i env S := by
  simp only [mVar, List.getElem?_cons_succ]
theorem ev_c : mC x env S = some (.ok (.p x), S) := id rfl
theorem dr_p : deref S (.p x) = some x := id rfl
theorem dr_0 {o : O} : deref (o :: S) (.ref 0) = o.pure := id rfl
theorem dr_S {o : O} {i : Nat} : deref (o :: S) (.ref (i + 1)) = deref S (.ref i) := by simp only [deref, List.getElem?_cons_succ]
theorem pu_pl {xs : List P} : O.pure (.pl xs) = some (.lst xs) := id rfl
theorem pu_pd {xs : List (Key × P)} : O.pure (.pd xs) = some (.dct xs) := id rfl
theorem pu_pdT {xs : List (List Key × P)} : O.pure (.pdT xs) = some (.dcT xs) := id rfl
theorem retO_s : retO (some x) S = some (.ok (.p x), S) := id rfl
/-- the last look -/
def fMv (i : Nat) (o : Out Val) : Out Val := match o with
  | some (.ok (.ref j), S) => ((S[j]?).bind O.pure).bind fun x => some (.ok (.p x), S.set j .gone)
  | _ => none
theorem ev_mv {i : Nat} : mMv i env S = fMv i (mVar i env S) := by
  unfold mMv fMv mVar
  cases h : env[i]? with
  | none => rfl
  | some o => cases o with
    | none => rfl
    | some d => cases d <;> rfl
def fMvx (o : Option P) (S : List O) : Out Val := o.bind fun x => some (.ok (.p x), S)
theorem fMv_ref {i j : Nat} : fMv i (some (.ok (.ref j), S)) = fMvx (deref S (.ref j)) (S.set j .gone) := id rfl
theorem fMvx_s : fMvx (some x) S = some (.ok (.p x), S) := id rfl
def fP1 (g : P → Option P) (o : Out Val) : Out Val := bnd o fun v S1 => (deref S1 v).bind fun p => retO (g p) S1
theorem ev_p1 {g : P → Option P} {a : EM} : mP1 g a env S = fP1 g (a env S) := id rfl
def fP1d (g : P → Option P) (o : Option P) (S : List O) : Out Val := o.bind fun p => retO (g p) S
theorem fP1_ok {g : P → Option P} : fP1 g (some (.ok v, S)) = fP1d g (deref S v) S := id rfl
theorem fP1d_s {g : P → Option P} : fP1d g (some x) S = retO (g x) S := id rfl
def fP2a (g : P → P → Option P) (b : EM) (env : Env) (o : Out Val) : Out Val := bnd o fun v S1 => bnd (b env S1) fun u S2 => (deref S2 v).bind fun p => (deref S2 u).bind fun q => retO (g p q) S2
def fP2b (g : P → P → Option P) (v : Val) (o : Out Val) : Out Val := bnd o fun u S2 => (deref S2 v).bind fun p => (deref S2 u).bind fun q => retO (g p q) S2
def fP2c (g : P → P → Option P) (o o' : Option P) (S : List O) : Out Val := o.bind fun p => o'.bind fun q => retO (g p q) S
theorem ev_p2 {a b : EM} : mP2 g a b env S = fP2a g b env (a env S) := id rfl
theorem fP2a_ok {b : EM} : fP2a g b env (some (.ok v, S)) = fP2b g v (b env S) := id rfl
theorem fP2a_exc {b : EM} : fP2a g b env (some (.exc c, S)) = some (.exc c, S) := id rfl
theorem fP2b_ok : fP2b g v (some (.ok u, S)) = fP2c g (deref S v) (deref S u) S := id rfl
theorem fP2b_exc : fP2b g v (some (.exc c, S)) = some (.exc c, S) := id rfl
theorem fP2c_s : fP2c g (some x) (some y) S = retO (g x y) S := id rfl
/-- rows of arguments -/
def fEa (ms : List EM) (env : Env) (o : Out Val) : Out (List Val) := bnd o fun v S1 => bnd (evs ms env S1) fun vs S2 => some (.ok (v :: vs), S2)
def fEb (v : Val) (o : Out (List Val)) : Out (List Val) := bnd o fun vs S2 => some (.ok (v :: vs), S2)
theorem evs_nil : evs [] env S = some (.ok [], S) := id rfl
theorem evs_cons {m : EM} {ms : List EM} : evs (m :: ms) env S = fEa ms env (m env S) := id rfl
theorem fEa_ok {ms : List EM} : fEa ms env (some (.ok v, S)) = fEb v (evs ms env S) := id rfl
theorem fEa_exc {ms : List EM} : fEa ms env (some (.exc c, S)) = some (.exc c, S) := id rfl
theorem fEb_ok {vs : List Val} : fEb v (some (.ok vs, S)) = some (.ok (v :: vs), S) := id rfl
theorem fEb_exc : fEb v (some (.exc c, S)) = some (.exc c, S) := id rfl
def fDr (S : List O) (vs : List Val) (k : Option (List P)) : Option (List P) := k
def fDc (o : Option P) (k : Option (List P)) : Option (List P) := o.bind fun p => k.bind fun ps => some (p :: ps)
theorem drs_nil : derefs S [] = some [] := id rfl
theorem drs_cons {vs : List Val} : derefs S (v :: vs) = fDc (deref S v) (derefs S vs) := id rfl
theorem fDc_s {ps : List P} : fDc (some x) (some ps) = some (x :: ps) := id rfl
def fPn (g : List P → Option P) (o : Out (List Val)) : Out Val := bnd o fun vs S1 => (derefs S1 vs).bind fun ps => retO (g ps) S1
def fPd (g : List P → Option P) (o : Option (List P)) (S : List O) : Out Val := o.bind fun ps => retO (g ps) S
theorem ev_pn {g : List P → Option P} {ms : List EM} : mPn g ms env S = fPn g (evs ms env S) := id rfl
theorem fPn_ok {g : List P → Option P} {vs : List Val} : fPn g (some (.ok vs, S)) = fPd g (derefs S vs) S := id rfl
theorem fPn_exc {g : List P → Option P} : fPn g (some (.exc c, S)) = some (.exc c, S) := id rfl
theorem fPd_s {g : List P → Option P} {ps : List P} : fPd g (some ps) S = retO (g ps) S := id rfl
theorem purs_nil : purs [] = some [] := id rfl
theorem purs_cons {vs : List Val} : purs (.p x :: vs) = fDc (some x) (purs vs) := id rfl
def fTup (o : Out (List Val)) : Out Val := bnd o fun vs S1 => (purs vs).bind fun ps => ret1 (.tup ps) S1
def fTd (o : Option (List P)) (S : List O) : Out Val := o.bind fun ps => ret1 (.tup ps) S
theorem ev_tup {ms : List EM} : mTup ms env S = fTup (evs ms env S) := id rfl
theorem fTup_ok {vs : List Val} : fTup (some (.ok vs, S)) = fTd (purs vs) S := id rfl
theorem fTup_exc : fTup (some (.exc c, S)) = some (.exc c, S) := id rfl
theorem fTd_s {ps : List P} : fTd (some ps) S = some (.ok (.p (.tup ps)), S) := id rfl
def fLst (o : Out (List Val)) : Out Val := bnd o fun vs S1 => (purs vs).bind fun ps => ret1 (.lst ps) S1
def fLd (o : Option (List P)) (S : List O) : Out Val := o.bind fun ps => ret1 (.lst ps) S
theorem ev_lst {ms : List EM} : mLst ms env S = fLst (evs ms env S) := id rfl
theorem fLst_ok {vs : List Val} : fLst (some (.ok vs, S)) = fLd (purs vs) S := id rfl
theorem fLst_exc : fLst (some (.exc c, S)) = some (.exc c, S) := id rfl
theorem fLd_s {ps : List P} : fLd (some ps) S = some (.ok (.p (.lst ps)), S) := id rfl
def fNewL (o : Out (List Val)) : Out Val := bnd o fun vs S1 => (purs vs).bind fun ps => some (.ok (.ref S1.length), S1 ++ [.pl ps])
def fNd (o : Option (List P)) (S : List O) : Out Val := o.bind fun ps => some (.ok (.ref S.length), S ++ [.pl ps])
theorem ev_newL {ms : List EM} : mNewL ms env S = fNewL (evs ms env S) := id rfl
theorem fNewL_ok {vs : List Val} : fNewL (some (.ok vs, S)) = fNd (purs vs) S := id rfl
theorem fNewL_exc : fNewL (some (.exc c, S)) = some (.exc c, S) := id rfl
theorem fNd_s {ps : List P} : fNd (some ps) S = some (.ok (.ref S.length), S ++ [.pl ps]) := id rfl
theorem ev_newD : mNewD env S = some (.ok (.ref S.length), S ++ [.pd []]) := id rfl
/-- and, or, not, if -/
def fAnd (b : EM) (env : Env) (o : Out Val) : Out Val := bnd o fun v S1 => match v with
  | .p (.bl true) => b env S1
  | .p (.bl false) => some (.ok (.p (.bl false)), S1)
  | _ => none
theorem ev_and {a b : EM} : mAnd a b env S = fAnd b env (a env S) := id rfl
theorem fAnd_t {b : EM} : fAnd b env (some (.ok (.p (.bl true)), S)) = b env S := id rfl
theorem fAnd_f {b : EM} : fAnd b env (some (.ok (.p (.bl false)), S)) = some (.ok (.p (.bl false)), S) := id rfl
theorem fAnd_exc {b : EM} : fAnd b env (some (.exc c, S)) = some (.exc c, S) := id rfl
def fOr (b : EM) (env : Env) (o : Out Val) : Out Val := bnd o fun v S1 => match v with
  | .p (.bl true) => some (.ok (.p (.bl true)), S1)
  | .p (.bl false) => b env S1
  | _ => none
theorem ev_or {a b : EM} : mOr a b env S = fOr b env (a env S) := id rfl
theorem fOr_t {b : EM} : fOr b env (some (.ok (.p (.bl true)), S)) = some (.ok (.p (.bl true)), S) := id rfl
theorem fOr_f {b : EM} : fOr b env (some (.ok (.p (.bl false)), S)) = b env S := id rfl
theorem fOr_exc {b : EM} : fOr b env (some (.exc c, S)) = some (.exc c, S) := id rfl
def fNot (o : Out Val) : Out Val := bnd o fun v S1 => match v with
  | .p (.bl b) => some (.ok (.p (.bl (!b))), S1)
  | _ => none
theorem ev_not {a : EM} : mNot a env S = fNot (a env S) := id rfl
theorem fNot_b {b : Bool} : fNot (some (.ok (.p (.bl b)), S)) = some (.ok (.p (.bl (!b))), S) := id rfl
theorem fNot_exc : fNot (some (.exc c, S)) = some (.exc c, S) := id rfl
def fIf (a b : EM) (env : Env) (o : Out Bool) : Out Val := bnd o fun c S1 => if c = true then a env S1 else b env S1
theorem ev_if {t : TM} {a b : EM} : mIf t a b env S = fIf a b env (t env S) := id rfl
theorem fIf_t {a b : EM} : fIf a b env (some (.ok true, S)) = a env S := id rfl
theorem fIf_f {a b : EM} : fIf a b env (some (.ok false, S)) = b env S := id rfl
theorem fIf_exc {a b : EM} : fIf a b env (some (.exc c, S)) = some (.exc c, S) := id rfl
/-- tests -/
def ftB (o : Out Val) : Out Bool := bnd o fun v S1 => match v with
  | .p (.bl b) => some (.ok b, S1)
  | _ => none
theorem ev_tB {m : EM} : tB m env S = ftB (m env S) := id rfl
theorem ftB_b {b : Bool} : ftB (some (.ok (.p (.bl b)), S)) = some (.ok b, S) := id rfl
theorem ftB_exc : ftB (some (.exc c, S)) = some (.exc c, S) := id rfl
def ftT (o : Out Val) : Out Bool := bnd o fun v S1 => (truthV S1 v).bind fun b => some (.ok b, S1)
def ftTd (o : Option Bool) (S : List O) : Out Bool := o.bind fun b => some (.ok b, S)
theorem ev_tTr {m : EM} : tTr m env S = ftT (m env S) := id rfl
theorem ftT_ok : ftT (some (.ok v, S)) = ftTd (truthV S v) S := id rfl
theorem ftT_exc : ftT (some (.exc c, S)) = some (.exc c, S) := id rfl
theorem ftTd_s {b : Bool} : ftTd (some b) S = some (.ok b, S) := id rfl
theorem tr_non : truthV S (.p .non) = some false := id rfl
theorem tr_bl {b : Bool} : truthV S (.p (.bl b)) = some b := id rfl
theorem tr_int {i : Int} : truthV S (.p (.int i)) = some (i != 0) := id rfl
theorem tr_tup {xs : List P} : truthV S (.p (.tup xs)) = some (!xs.isEmpty) := id rfl
theorem tr_lst {xs : List P} : truthV S (.p (.lst xs)) = some (!xs.isEmpty) := id rfl
theorem tr_0 {o : O} : truthV (o :: S) (.ref 0) = o.truth := id rfl
theorem tr_S {o : O} {i : Nat} : truthV (o :: S) (.ref (i + 1)) = truthV S (.ref i) := by simp only [truthV, List.getElem?_cons_succ]
theorem otr_pl {xs : List P} : O.truth (.pl xs) = some (!xs.isEmpty) := id rfl
def ftAnd (b : TM) (env : Env) (o : Out Bool) : Out Bool := bnd o fun c S1 => if c = true then b env S1 else some (.ok false, S1)
theorem ev_tand {a b : TM} : tAndM a b env S = ftAnd b env (a env S) := id rfl
theorem ftAnd_t {b : TM} : ftAnd b env (some (.ok true, S)) = b env S := id rfl
theorem ftAnd_f {b : TM} : ftAnd b env (some (.ok false, S)) = some (.ok false, S) := id rfl
theorem ftAnd_exc {b : TM} : ftAnd b env (some (.exc c, S)) = some (.exc c, S) := id rfl
def ftOr (b : TM) (env : Env) (o : Out Bool) : Out Bool := bnd o fun c S1 => if c = true then some (.ok true, S1) else b env S1
theorem ev_tor {a b : TM} : tOrM a b env S = ftOr b env (a env S) := id rfl
theorem ftOr_t {b : TM} : ftOr b env (some (.ok true, S)) = some (.ok true, S) := id rfl
theorem ftOr_f {b : TM} : ftOr b env (some (.ok false, S)) = b env S := id rfl
theorem ftOr_exc {b : TM} : ftOr b env (some (.exc c, S)) = some (.exc c, S) := id rfl
def ftNot (o : Out Bool) : Out Bool := bnd o fun c S1 => some (.ok (!c), S1)
theorem ev_tnot {a : TM} : tNotM a env S = ftNot (a env S) := id rfl
theorem ftNot_b {b : Bool} : ftNot (some (.ok b, S)) = some (.ok (!b), S) := id rfl
theorem ftNot_exc : ftNot (some (.exc c, S)) = some (.exc c, S) := id rfl
theorem ev_tyes : tYesM env S = some (.ok true, S) := id rfl
/-- slices -/
def fSa (lo hi : Option EM) (env : Env) (o : Out Val) : Out Val := bnd o fun v S1 => bnd (evO lo env S1) fun l S2 => bnd (evO hi env S2) fun h S3 => (deref S3 v).bind fun x => retO (sliceP x l h) S3
def fSb (hi : Option EM) (env : Env) (v : Val) (o : Out (Option Int)) : Out Val := bnd o fun l S2 => bnd (evO hi env S2) fun h S3 => (deref S3 v).bind fun x => retO (sliceP x l h) S3
def fSc (v : Val) (l : Option Int) (o : Out (Option Int)) : Out Val := bnd o fun h S3 => (deref S3 v).bind fun x => retO (sliceP x l h) S3
def fSd (o : Option P) (l h : Option Int) (S : List O) : Out Val := o.bind fun x => retO (sliceP x l h) S
theorem ev_sl {m : EM} {lo hi : Option EM} : mSl m lo hi env S = fSa lo hi env (m env S) := id rfl
theorem fSa_ok {lo hi : Option EM} : fSa lo hi env (some (.ok v, S)) = fSb hi env v (evO lo env S) := id rfl
theorem fSa_exc {lo hi : Option EM} : fSa lo hi env (some (.exc c, S)) = some (.exc c, S) := id rfl
theorem fSb_ok {hi : Option EM} {l : Option Int} : fSb hi env v (some (.ok l, S)) = fSc v l (evO hi env S) := id rfl
theorem fSc_ok {l h : Option Int} : fSc v l (some (.ok h, S)) = fSd (deref S v) l h S := id rfl
theorem fSd_s {l h : Option Int} : fSd (some x) l h S = retO (sliceP x l h) S := id rfl
def fO (o : Out Val) : Out (Option Int) := bnd o fun v S1 => (partV v).bind fun i => some (.ok (some i), S1)
theorem evO_n : evO none env S = some (.ok none, S) := id rfl
theorem evO_s {m : EM} : evO (some m) env S = fO (m env S) := id rfl
theorem fO_i {i : Int} : fO (some (.ok (.p (.int i)), S)) = some (.ok (some i), S) := id rfl
/-- a < b < c -/
def fCa (f g : P → P → Option P) (b d : EM) (env : Env) (o : Out Val) : Out Val := bnd o fun v S1 => bnd (b env S1) fun u S2 => (deref S2 v).bind fun p => (deref S2 u).bind fun q => match f p q with
  | some (.bl true) => bnd (d env S2) fun t S3 => (deref S3 u).bind fun q' => (deref S3 t).bind fun r => retO (g q' r) S3
  | some (.bl false) => ret1 (.bl false) S2
  | _ => none
def fCb (f g : P → P → Option P) (d : EM) (env : Env) (v : Val) (o : Out Val) : Out Val := bnd o fun u S2 => (deref S2 v).bind fun p => (deref S2 u).bind fun q => match f p q with
  | some (.bl true) => bnd (d env S2) fun t S3 => (deref S3 u).bind fun q' => (deref S3 t).bind fun r => retO (g q' r) S3
  | some (.bl false) => ret1 (.bl false) S2
  | _ => none
def fCc (g : P → P → Option P) (d : EM) (env : Env) (u : Val) (o : Option P) (S2 : List O) : Out Val := match o with
  | some (.bl true) => bnd (d env S2) fun t S3 => (deref S3 u).bind fun q' => (deref S3 t).bind fun r => retO (g q' r) S3
  | some (.bl false) => ret1 (.bl false) S2
  | _ => none
theorem ev_ch {f g : P → P → Option P} {a b d : EM} : mChain f g a b d env S = fCa f g b d env (a env S) := id rfl
theorem fCa_ok {f g : P → P → Option P} {b d : EM} : fCa f g b d env (some (.ok v, S)) = fCb f g d env v (b env S) := id rfl
theorem fCb_ok {f g : P → P → Option P} {d : EM} : fCb f g d env (.p x) (some (.ok (.p y), S)) = fCc g d env (.p y) (f x y) S := id rfl
theorem fCc_t {g : P → P → Option P} {d : EM} : fCc g d env u (some (.bl true)) S = fP2b g u (d env S) := id rfl
theorem fCc_f {g : P → P → Option P} {d : EM} : fCc g d env u (some (.bl false)) S = some (.ok (.p (.bl false)), S) := id rfl
/-- calls -/
def fCall (f : Fn) (o : Out (List Val)) : Out Val := bnd o fun vs S1 => callV f vs S1
theorem ev_call {f : Fn} {ms : List EM} : mCall f ms env S = fCall f (evs ms env S) := id rfl
theorem fCall_ok {f : Fn} {vs : List Val} : fCall f (some (.ok vs, S)) = callV f vs S := id rfl
theorem fCall_exc {f : Fn} : fCall f (some (.exc c, S)) = some (.exc c, S) := id rfl
def fRp (S : List O) (o : Out Val) : Out Val := match o with
  | some (.ok (.p x), _) => some (.ok (.p x), S)
  | some (.exc c, _) => some (.exc c, S)
  | _ => none
theorem fRp_ok : fRp S (some (.ok (.p x), S1)) = some (.ok (.p x), S) := id rfl
theorem fRp_exc : fRp S (some (.exc c, S1)) = some (.exc c, S) := id rfl
theorem callV_p {f : Fn} (us : List P) : callV f (us.map Val.p) S = fRp S (f (us.map Val.p) []) := by
  simp only [callV, ps_refs, ps_renum, nodupB, if_true, gets, Option.bind_some, puts]
  unfold fRp
  split <;> simp_all
theorem cv_1 {f : Fn} {a : P} : callV f [.p a] S = fRp S (f [.p a] []) := callV_p [a]
theorem cv_2 {f : Fn} {a b : P} : callV f [.p a, .p b] S = fRp S (f [.p a, .p b] []) := callV_p [a, b]
theorem cv_3 {f : Fn} {a b d : P} : callV f [.p a, .p b, .p d] S = fRp S (f [.p a, .p b, .p d] []) := callV_p [a, b, d]
theorem cv_4 {f : Fn} {a b d e : P} : callV f [.p a, .p b, .p d, .p e] S = fRp S (f [.p a, .p b, .p d, .p e] []) := callV_p [a, b, d, e]
theorem cv_5 {f : Fn} {a b d e h : P} : callV f [.p a, .p b, .p d, .p e, .p h] S = fRp S (f [.p a, .p b, .p d, .p e, .p h] []) := callV_p [a, b, d, e, h]
/-- calls that draw: the town is the first thing -/
def fRt (S : List O) (o : Out Val) : Out Val := match o with
  | some (.ok (.p x), [t]) => some (.ok (.p x), t :: S)
  | some (.exc c, [t]) => some (.exc c, t :: S)
  | _ => none
theorem fRt_ok {t : O} : fRt S (some (.ok (.p x), [t])) = some (.ok (.p x), t :: S) := id rfl
theorem callV_t {f : Fn} {ns : List Int} {n : Nat} (us : List P) (hl : ∀ o os', f (.p (.fz ns) :: .ref 0 :: us.map Val.p) [tw n] = some (o, os') → os'.length = 1) : callV f (.p (.fz ns) :: .ref 0 :: us.map Val.p) (tw n :: S) = fRt S (f (.p (.fz ns) :: .ref 0 :: us.map Val.p) [tw n]) := by
  simp only [callV, refsOf, ps_refs, renum, ps_renum, nodupB, List.contains_nil, Bool.not_false, Bool.and_self, if_true, gets, List.getElem?_cons_zero, Option.bind_some, tw_closed]
  unfold fRt
  generalize f (.p (.fz ns) :: .ref 0 :: us.map Val.p) [tw n] = o at hl
  cases o with
  | none => rfl
  | some r =>
    obtain ⟨a, os⟩ := r
    have := hl _ _ rfl
    match os, this with
    | [t], _ =>
      cases a with
      | ok v => cases v <;> rfl
      | exc c => rfl
/-- comprehensions -/
def fLc (t : Tg) (d : TM) (e : EM) (env : Env) (o : Out (List P)) : Out Val := bnd o fun xs S1 => lcL t d e env xs [] S1
theorem ev_lc {own : List Nat} {t : Tg} {it : IM} {d : TM} {e : EM} : mLc own t it d e env S = fLc t d e (clr own env) (it env S) := id rfl
theorem fLc_ok {t : Tg} {d : TM} {e : EM} {xs : List P} : fLc t d e env (some (.ok xs, S)) = lcL t d e env xs [] S := id rfl
/-- what is walked -/
def fSeq (o : Out Val) : Out (List P) := bnd o fun v S1 => (Val.pur v).bind fun x => (seqP x).bind fun xs => some (.ok xs, S1)
theorem it_seq {m : EM} : iSeq m env S = fSeq (m env S) := id rfl
theorem fSeq_t {xs : List P} : fSeq (some (.ok (.p (.tup xs)), S)) = some (.ok xs, S) := id rfl
theorem fSeq_l {xs : List P} : fSeq (some (.ok (.p (.lst xs)), S)) = some (.ok xs, S) := id rfl
def fEn (o : Out Val) : Out (List P) := bnd o fun v S1 => (Val.pur v).bind fun x => (seqQ x).bind fun xs => some (.ok (enumL 0 xs), S1)
theorem it_en {m : EM} : iEnumM m env S = fEn (m env S) := id rfl
theorem fEn_t {xs : List P} : fEn (some (.ok (.p (.tup xs)), S)) = some (.ok (enumL 0 xs), S) := id rfl
theorem fEn_l {xs : List P} : fEn (some (.ok (.p (.lst xs)), S)) = some (.ok (enumL 0 xs), S) := id rfl
def fR1 (o : Out Val) : Out (List P) := bnd o fun v S1 => match v with
  | .p (.int j) => if smB j = true then some (.ok (rngL 0 j.toNat), S1) else none
  | _ => none
theorem it_r1 {m : EM} : iRange1 m env S = fR1 (m env S) := id rfl
theorem fR1_ok {j : Int} (h1 : -1000000 ≤ j) (h2 : j ≤ 1000000) : fR1 (some (.ok (.p (.int j)), S)) = some (.ok (rngL 0 j.toNat), S) := if_pos (smB_lit h1 h2)
def fR2a (b : EM) (env : Env) (o : Out Val) : Out (List P) := bnd o fun v S1 => bnd (b env S1) fun u S2 => match v, u with
  | .p (.int i), .p (.int j) => if smB i = true ∧ smB j = true then some (.ok (rngL i (j - i).toNat), S2) else none
  | _, _ => none
def fR2b (v : Val) (o : Out Val) : Out (List P) := bnd o fun u S2 => match v, u with
  | .p (.int i), .p (.int j) => if smB i = true ∧ smB j = true then some (.ok (rngL i (j - i).toNat), S2) else none
  | _, _ => none
theorem it_r2 {a b : EM} : iRange2 a b env S = fR2a b env (a env S) := id rfl
theorem fR2a_ok {b : EM} : fR2a b env (some (.ok v, S)) = fR2b v (b env S) := id rfl
theorem fR2b_ok {i j : Int} (h1 : -1000000 ≤ i) (h2 : i ≤ 1000000) (h3 : -1000000 ≤ j) (h4 : j ≤ 1000000) : fR2b (.p (.int i)) (some (.ok (.p (.int j)), S)) = some (.ok (rngL i (j - i).toNat), S) := if_pos ⟨smB_lit h1 h2, smB_lit h3 h4⟩
def fZa (b : EM) (env : Env) (o : Out Val) : Out (List P) := bnd o fun v S1 => bnd (b env S1) fun u S2 => match v, u with
  | .p (.tup xs), .p (.tup ys) => some (.ok (zipL xs ys), S2)
  | .p (.lst xs), .p (.lst ys) => some (.ok (zipL xs ys), S2)
  | _, _ => none
def fZb (v : Val) (o : Out Val) : Out (List P) := bnd o fun u S2 => match v, u with
  | .p (.tup xs), .p (.tup ys) => some (.ok (zipL xs ys), S2)
  | .p (.lst xs), .p (.lst ys) => some (.ok (zipL xs ys), S2)
  | _, _ => none
theorem it_z {a b : EM} : iZipM a b env S = fZa b env (a env S) := id rfl
theorem fZa_ok {b : EM} : fZa b env (some (.ok v, S)) = fZb v (b env S) := id rfl
theorem fZb_t {xs ys : List P} : fZb (.p (.tup xs)) (some (.ok (.p (.tup ys)), S)) = some (.ok (zipL xs ys), S) := id rfl
theorem fZb_l {xs ys : List P} : fZb (.p (.lst xs)) (some (.ok (.p (.lst ys)), S)) = some (.ok (zipL xs ys), S) := id rfl
/-- things changed -/
def fMa (f : Nat → Val → M Val) (e : EM) (env : Env) (o : Out Val) : Out Val := bnd o fun v S1 => match v with
  | .ref i => if lstAt S1 i = true then bnd (e env S1) fun u S2 => f i u S2 else none
  | .p _ => none
def fMb (f : Nat → Val → M Val) (e : EM) (env : Env) (i : Nat) (b : Bool) (S : List O) : Out Val := if b = true then bnd (e env S) fun u S2 => f i u S2 else none
def fMc (f : Nat → Val → M Val) (i : Nat) (o : Out Val) : Out Val := bnd o fun u S2 => f i u S2
theorem ev_me {f : Nat → Val → M Val} {o e : EM} : mMeth f o e env S = fMa f e env (o env S) := id rfl
theorem fMa_ok {f : Nat → Val → M Val} {e : EM} {i : Nat} : fMa f e env (some (.ok (.ref i), S)) = fMb f e env i (lstAt S i) S := id rfl
theorem fMb_t {f : Nat → Val → M Val} {e : EM} {i : Nat} : fMb f e env i true S = fMc f i (e env S) := id rfl
theorem fMc_ok {f : Nat → Val → M Val} {i : Nat} : fMc f i (some (.ok u, S)) = f i u S := id rfl
theorem fMc_exc {f : Nat → Val → M Val} {i : Nat} : fMc f i (some (.exc c, S)) = some (.exc c, S) := id rfl
theorem la_0 {xs : List P} : lstAt (.pl xs :: S) 0 = true := id rfl
theorem la_r0 {xs : List Nat} : lstAt (.rl xs :: S) 0 = true := id rfl
theorem la_S {o : O} {i : Nat} : lstAt (o :: S) (i + 1) = lstAt S i := by simp only [lstAt, List.getElem?_cons_succ]
theorem app_0 {xs : List P} (h : xs.length < sizeLine) : appV 0 (.p x) (.pl xs :: S) = some (.ok (.p .non), .pl (xs ++ [x]) :: S) := by
  simp only [appV, List.getElem?_cons_zero, h, if_true, List.set_cons_zero]
def fPush (o : O) (m : Out Val) : Out Val := m.bind fun q => some (q.1, o :: q.2)
theorem fPush_s {o : O} : fPush o (some (.ok v, S)) = some (.ok v, o :: S) := id rfl
theorem app_S {o : O} {i : Nat} : appV (i + 1) u (o :: S) = fPush o (appV i u S) := by
  unfold appV fPush
  simp only [List.getElem?_cons_succ]
  split <;> simp_all <;> split <;> simp_all
theorem ext_0 {xs ys : List P} (h : xs.length + ys.length ≤ sizeLine) : extV 0 (.p (.lst ys)) (.pl xs :: S) = some (.ok (.p .non), .pl (xs ++ ys) :: S) := by
  simp only [extV, List.getElem?_cons_zero, h, if_true, List.set_cons_zero]
theorem ext_S {o : O} {i : Nat} : extV (i + 1) u (o :: S) = fPush o (extV i u S) := by
  unfold extV fPush
  simp only [List.getElem?_cons_succ]
  split <;> simp_all <;> split <;> simp_all
end
end Z

end
section
namespace Z
open PySem L2
/-! ### the machine: statements -/
abbrev FQ := Fl → List O → Prop
def Wr : List SM → FQ → Option (Fl × List O) → Prop
  | _, _, none => False
  | [], Q, some (r, S) => Q r S
  | b :: ks, Q, some (.nx e, S) => Wr ks Q (b e S)
  | _ :: _, Q, some (.rt v, S) => Q (.rt v) S
  | _ :: _, Q, some (.bk e, S) => Q (.bk e) S
  | _ :: _, Q, some (.ct e, S) => Q (.ct e) S
  | _ :: _, Q, some (.ex c e, S) => Q (.ex c e) S
def W (b : SM) (ks : List SM) (Q : FQ) (env : Env) (S : List O) : Prop := Wr ks Q (b env S)
def Wn (ks : List SM) (Q : FQ) (env : Env) (S : List O) : Prop := Wr ks Q (some (.nx env, S))
theorem Wr_rt {ks : List SM} {Q : FQ} {v : Val} {S : List O} : Wr ks Q (some (.rt v, S)) = Q (.rt v) S := by cases ks <;> rfl
theorem Wr_ex {ks : List SM} {Q : FQ} {c : Str} {e : Env} {S : List O} : Wr ks Q (some (.ex c e, S)) = Q (.ex c e) S := by cases ks <;> rfl
theorem Wr_bk {ks : List SM} {Q : FQ} {e : Env} {S : List O} : Wr ks Q (some (.bk e, S)) = Q (.bk e) S := by cases ks <;> rfl
theorem Wr_ct {ks : List SM} {Q : FQ} {e : Env} {S : List O} : Wr ks Q (some (.ct e, S)) = Q (.ct e) S := by cases ks <;> rfl
section
variable {env : Env} {S S1 S2 S3 : List O} {v u : Val} {x y z : P} {c : Str} {ks : List SM} {Q : FQ}
theorem W_seq {a b : SM} : W (sSeq a b) ks Q env S = W a (b :: ks) Q env S := by
  unfold W sSeq
  cases h : a env S with
  | none => cases ks <;> rfl
  | some r =>
    obtain ⟨f, S1⟩ := r
    cases f <;> simp only [Wr] <;> cases ks <;> rfl
theorem W_pass : W sPass ks Q env S = Wn ks Q env S := id rfl
theorem Wn_cons {b : SM} : Wn (b :: ks) Q env S = W b ks Q env S := id rfl
theorem Wn_nil : Wn [] Q env S = Q (.nx env) S := id rfl
def wSet (i : Nat) (ks : List SM) (Q : FQ) (env : Env) (o : Out Val) : Prop := Wr ks Q (stm env o fun v S1 => some (.nx (env.set i (some v)), S1))
theorem W_set {i : Nat} {m : EM} : W (sSet i m) ks Q env S = wSet i ks Q env (m env S) := id rfl
theorem wSet_ok {i : Nat} : wSet i ks Q env (some (.ok v, S)) = Wn ks Q (env.set i (some v)) S := id rfl
theorem wSet_exc {i : Nat} : wSet i ks Q env (some (.exc c, S)) = Q (.ex c env) S := Wr_ex
def wEx (ks : List SM) (Q : FQ) (env : Env) (o : Out Val) : Prop := Wr ks Q (stm env o fun v S1 => some (.nx env, S1))
theorem W_expr {m : EM} : W (sExpr m) ks Q env S = wEx ks Q env (m env S) := id rfl
theorem wEx_ok : wEx ks Q env (some (.ok v, S)) = Wn ks Q env S := id rfl
theorem wEx_exc : wEx ks Q env (some (.exc c, S)) = Q (.ex c env) S := Wr_ex
def wRet (ks : List SM) (Q : FQ) (env : Env) (o : Out Val) : Prop := Wr ks Q (stm env o fun v S1 => some (.rt v, S1))
theorem W_ret {m : EM} : W (sRet m) ks Q env S = wRet ks Q env (m env S) := id rfl
theorem wRet_ok : wRet ks Q env (some (.ok v, S)) = Q (.rt v) S := Wr_rt
theorem wRet_exc : wRet ks Q env (some (.exc c, S)) = Q (.ex c env) S := Wr_ex
def wIf (a b : SM) (ks : List SM) (Q : FQ) (env : Env) (o : Out Bool) : Prop := Wr ks Q (stm env o fun c S1 => if c = true then a env S1 else b env S1)
theorem W_if {t : TM} {a b : SM} : W (sIf t a b) ks Q env S = wIf a b ks Q env (t env S) := id rfl
theorem wIf_t {a b : SM} : wIf a b ks Q env (some (.ok true, S)) = W a ks Q env S := id rfl
theorem wIf_f {a b : SM} : wIf a b ks Q env (some (.ok false, S)) = W b ks Q env S := id rfl
theorem wIf_exc {a b : SM} : wIf a b ks Q env (some (.exc c, S)) = Q (.ex c env) S := Wr_ex
theorem wIf_c {a b : SM} {q : Bool} : wIf a b ks Q env (some (.ok q, S)) = ((q = true → W a ks Q env S) ∧ (q = false → W b ks Q env S)) := by
  cases q <;> simp [wIf_t, wIf_f]
theorem W_brk : W sBrk ks Q env S = Q (.bk env) S := Wr_bk
theorem W_cont : W sCont ks Q env S = Q (.ct env) S := Wr_ct
theorem W_raise : W (sRaise c) ks Q env S = Q (.ex c env) S := Wr_ex
def wA (ks : List SM) (Q : FQ) (o : Option Env) (S : List O) : Prop := Wr ks Q (o.bind fun e => some (.nx e, S))
def wAsg (t : Tg) (ks : List SM) (Q : FQ) (env : Env) (o : Out Val) : Prop := Wr ks Q (stm env o fun v S1 => (Val.pur v).bind fun x => (asg t x env).bind fun e => some (.nx e, S1))
theorem W_asg {t : Tg} {m : EM} : W (sAsg t m) ks Q env S = wAsg t ks Q env (m env S) := id rfl
theorem wAsg_ok {t : Tg} : wAsg t ks Q env (some (.ok (.p x), S)) = wA ks Q (asg t x env) S := id rfl
theorem wAsg_exc {t : Tg} : wAsg t ks Q env (some (.exc c, S)) = Q (.ex c env) S := Wr_ex
theorem wA_s {e : Env} : wA ks Q (some e) S = Wn ks Q e S := id rfl
theorem asg_nm {i : Nat} : asg (.nm i) x env = some (env.set i (some (.p x))) := by simp only [asg]
theorem asg_tp {ts : List Tg} {xs : List P} : asg (.tp ts) (.tup xs) env = asgs ts xs env := by simp only [asg]
theorem asg_tpl {ts : List Tg} {xs : List P} : asg (.tp ts) (.lst xs) env = asgs ts xs env := by simp only [asg]
def fAs (ts : List Tg) (xs : List P) (o : Option Env) : Option Env := o.bind fun e => asgs ts xs e
theorem asgs_nil : asgs [] [] env = some env := by simp only [asgs]
theorem asgs_cons {t : Tg} {ts : List Tg} {xs : List P} : asgs (t :: ts) (x :: xs) env = fAs ts xs (asg t x env) := by simp only [asgs, fAs]
theorem fAs_s {ts : List Tg} {xs : List P} {e : Env} : fAs ts xs (some e) = asgs ts xs e := id rfl
def wPa (i j : Nat) (b : EM) (ks : List SM) (Q : FQ) (env : Env) (o : Out Val) : Prop := Wr ks Q (stm env o fun v S1 => stm env (b env S1) fun u S2 => some (.nx ((env.set i (some v)).set j (some u)), S2))
def wPb (i j : Nat) (v : Val) (ks : List SM) (Q : FQ) (env : Env) (o : Out Val) : Prop := Wr ks Q (stm env o fun u S2 => some (.nx ((env.set i (some v)).set j (some u)), S2))
theorem W_par2 {i j : Nat} {a b : EM} : W (sPar2 i j a b) ks Q env S = wPa i j b ks Q env (a env S) := id rfl
theorem wPa_ok {i j : Nat} {b : EM} : wPa i j b ks Q env (some (.ok v, S)) = wPb i j v ks Q env (b env S) := id rfl
theorem wPa_exc {i j : Nat} {b : EM} : wPa i j b ks Q env (some (.exc c, S)) = Q (.ex c env) S := Wr_ex
theorem wPb_ok {i j : Nat} : wPb i j u ks Q env (some (.ok v, S)) = Wn ks Q ((env.set i (some u)).set j (some v)) S := id rfl
theorem wPb_exc {i j : Nat} : wPb i j u ks Q env (some (.exc c, S)) = Q (.ex c env) S := Wr_ex
theorem clr_nil : clr [] env = env := id rfl
theorem clr_cons {i : Nat} {is : List Nat} : clr (i :: is) env = clr is (env.set i none) := id rfl
/-! loops -/
def wFor (t : Tg) (b : SM) (cl : List Nat) (ks : List SM) (Q : FQ) (env : Env) (o : Out (List P)) : Prop := Wr ks Q (stm env o fun xs S1 => forL t b cl xs env S1)
theorem W_for {t : Tg} {it : IM} {b : SM} {cl : List Nat} : W (sFor t it b cl) ks Q env S = wFor t b cl ks Q env (it env S) := id rfl
theorem wFor_ok {t : Tg} {b : SM} {cl : List Nat} {xs : List P} : wFor t b cl ks Q env (some (.ok xs, S)) = W (forL t b cl xs) ks Q env S := id rfl
theorem wFor_exc {t : Tg} {b : SM} {cl : List Nat} : wFor t b cl ks Q env (some (.exc c, S)) = Q (.ex c env) S := Wr_ex
/-- what is due behind one turn -/
def IQ (cl : List Nat) (I : Env → List O → Prop) (ks : List SM) (Q : FQ) : FQ
  | .nx e, S => I (clr cl e) S
  | .ct e, S => I (clr cl e) S
  | .bk e, S => Wn ks Q e S
  | .rt v, S => Q (.rt v) S
  | .ex c e, S => Q (.ex c e) S
theorem IQ_nx {cl : List Nat} {I : Env → List O → Prop} {e : Env} : IQ cl I ks Q (.nx e) S = I (clr cl e) S := id rfl
theorem IQ_ct {cl : List Nat} {I : Env → List O → Prop} {e : Env} : IQ cl I ks Q (.ct e) S = I (clr cl e) S := id rfl
theorem IQ_bk {cl : List Nat} {I : Env → List O → Prop} {e : Env} : IQ cl I ks Q (.bk e) S = Wn ks Q e S := id rfl
theorem IQ_rt {cl : List Nat} {I : Env → List O → Prop} : IQ cl I ks Q (.rt v) S = Q (.rt v) S := id rfl
theorem IQ_ex {cl : List Nat} {I : Env → List O → Prop} {e : Env} : IQ cl I ks Q (.ex c e) S = Q (.ex c e) S := id rfl
def wB (b : SM) (Q : FQ) (o : Option Env) (S : List O) : Prop := match o with
  | some e => W b [] Q e S
  | none => False
theorem wB_s {b : SM} {e : Env} : wB b Q (some e) S = W b [] Q e S := id rfl
theorem W_fnil {t : Tg} {b : SM} {cl : List Nat} : W (forL t b cl []) ks Q env S = Wn ks Q env S := id rfl
theorem W_fcons {t : Tg} {b : SM} {cl : List Nat} {xs : List P} : W (forL t b cl (x :: xs)) ks Q env S = wB b (IQ cl (W (forL t b cl xs) ks Q) ks Q) (asg t x env) S := by
  unfold W
  rw [forL_cons]
  cases h : asg t x env with
  | none => cases ks <;> rfl
  | some e =>
    show Wr ks Q (match b e S with
      | some (.nx e', S') => forL t b cl xs (clr cl e') S'
      | some (.ct e', S') => forL t b cl xs (clr cl e') S'
      | some (.bk e', S') => some (.nx e', S')
      | r => r) = Wr [] _ (b e S)
    cases h2 : b e S with
    | none => cases ks <;> rfl
    | some r =>
      obtain ⟨f, S1⟩ := r
      cases f <;> simp only [Wr] <;> first | rfl | exact Wr_rt | exact Wr_ex
/-- by what holds between the turns: the names and the things are functions of a plain state -/
theorem W_invG {α σ : Type} {t : Tg} {b : SM} {cl : List Nat} {xs : List P} (ys : List α) (g : Nat → α → P) (hx : ∀ i : Nat, xs[i]? = (ys[i]?).map (g i)) (E : σ → Env) (T : σ → List O) (J : Nat → σ → Prop) (s0 : σ) (he : env = E s0) (hS : S = T s0) (h0 : J 0 s0)
    (hs : ∀ (i : Nat) (y : α) (s : σ), ys[i]? = some y → J i s → wB b (IQ cl (fun e S' => ∃ s', e = E s' ∧ S' = T s' ∧ J (i + 1) s') ks Q) (asg t (g i y) (E s)) (T s))
    (hf : ∀ s, J ys.length s → Wn ks Q (E s) (T s)) : W (forL t b cl xs) ks Q env S := by
  have hlen : xs.length = ys.length := by
    apply Nat.le_antisymm
    · have := hx ys.length
      rw [List.getElem?_eq_none (Nat.le_refl _)] at this
      exact List.getElem?_eq_none_iff.mp this
    · have := hx xs.length
      rw [List.getElem?_eq_none (Nat.le_refl _)] at this
      exact List.getElem?_eq_none_iff.mp (by simpa using this.symm)
  have key : ∀ (zs : List P) (k : Nat) (s : σ), (∀ i, zs[i]? = xs[k + i]?) → k + zs.length = xs.length → J k s → W (forL t b cl zs) ks Q (E s) (T s) := by
    intro zs
    induction zs with
    | nil => intro k s _ hk hj; rw [W_fnil]; exact hf s (by rw [← hlen, ← hk]; exact hj)
    | cons z zs ih =>
      intro k s hz hk hj
      rw [W_fcons]
      have hz0 := hz 0
      rw [List.getElem?_cons_zero, Nat.add_zero, hx k] at hz0
      obtain ⟨y, hy, hgy⟩ := Option.map_eq_some_iff.mp hz0.symm
      have h1 := hs k y s hy hj
      rw [hgy] at h1
      cases ha : asg t z (E s) with
      | none => rw [ha] at h1; exact h1
      | some e =>
        rw [ha] at h1
        rw [wB_s] at h1 ⊢
        have mono : ∀ (r : Fl) (S' : List O), IQ cl (fun e S' => ∃ s', e = E s' ∧ S' = T s' ∧ J (k + 1) s') ks Q r S' → IQ cl (W (forL t b cl zs) ks Q) ks Q r S' := by
          intro r S' hr
          have nxt : ∀ e', (∃ s', clr cl e' = E s' ∧ S' = T s' ∧ J (k + 1) s') → W (forL t b cl zs) ks Q (clr cl e') S' := by
            rintro e' ⟨s', a1, a2, a3⟩
            rw [a1, a2]
            exact ih (k + 1) s' (fun i => by have := hz (i + 1); rw [List.getElem?_cons_succ] at this; rw [this]; congr 1; omega) (by rw [List.length_cons] at hk; omega) a3
          cases r with
          | nx e' => exact nxt e' hr
          | ct e' => exact nxt e' hr
          | bk e' => exact hr
          | rt v => exact hr
          | ex c e' => exact hr
        unfold W at h1 ⊢
        cases hb : b e (T s) with
        | none => rw [hb] at h1; exact h1
        | some r => rw [hb] at h1; exact mono _ _ h1
  rw [he, hS]
  exact key xs 0 s0 (fun i => by rw [Nat.zero_add]) (by omega) h0
theorem W_inv {α σ : Type} {t : Tg} {b : SM} {cl : List Nat} (ys : List α) (g : α → P) (E : σ → Env) (T : σ → List O) (J : Nat → σ → Prop) (s0 : σ) (he : env = E s0) (hS : S = T s0) (h0 : J 0 s0)
    (hs : ∀ (i : Nat) (y : α) (s : σ), ys[i]? = some y → J i s → wB b (IQ cl (fun e S' => ∃ s', e = E s' ∧ S' = T s' ∧ J (i + 1) s') ks Q) (asg t (g y) (E s)) (T s))
    (hf : ∀ s, J ys.length s → Wn ks Q (E s) (T s)) : W (forL t b cl (ys.map g)) ks Q env S :=
  W_invG ys (fun _ => g) (fun i => List.getElem?_map) E T J s0 he hS h0 hs hf
theorem enumL_at : ∀ (k i : Nat) (xs : List P), (enumL k xs)[i]? = (xs[i]?).map fun x => .tup [.int ((k + i : Nat) : Int), x]
  | k, i, [] => by simp
  | k, 0, x :: xs => by simp
  | k, i + 1, x :: xs => by
    rw [enumL, List.getElem?_cons_succ, enumL_at (k + 1) i xs, List.getElem?_cons_succ, show k + 1 + i = k + (i + 1) by omega]
/-- for i, y in enumerate(..) -/
theorem W_enum {α σ : Type} {t : Tg} {b : SM} {cl : List Nat} (ys : List α) (g : α → P) (E : σ → Env) (T : σ → List O) (J : Nat → σ → Prop) (s0 : σ) (he : env = E s0) (hS : S = T s0) (h0 : J 0 s0)
    (hs : ∀ (i : Nat) (y : α) (s : σ), ys[i]? = some y → J i s → wB b (IQ cl (fun e S' => ∃ s', e = E s' ∧ S' = T s' ∧ J (i + 1) s') ks Q) (asg t (.tup [.int (i : Int), g y]) (E s)) (T s))
    (hf : ∀ s, J ys.length s → Wn ks Q (E s) (T s)) : W (forL t b cl (enumL 0 (ys.map g))) ks Q env S :=
  W_invG ys (fun i y => .tup [.int (i : Int), g y]) (fun i => by rw [enumL_at, List.getElem?_map, Nat.zero_add]; cases ys[i]? <;> rfl) E T J s0 he hS h0 hs hf
/-- for i in range(n) -/
theorem W_rng {σ : Type} {t : Tg} {b : SM} {cl : List Nat} (lo : Int) (n : Nat) (E : σ → Env) (T : σ → List O) (J : Nat → σ → Prop) (s0 : σ) (he : env = E s0) (hS : S = T s0) (h0 : J 0 s0)
    (hs : ∀ (i : Nat) (s : σ), i < n → J i s → wB b (IQ cl (fun e S' => ∃ s', e = E s' ∧ S' = T s' ∧ J (i + 1) s') ks Q) (asg t (.int (lo + (i : Int))) (E s)) (T s))
    (hf : ∀ s, J n s → Wn ks Q (E s) (T s)) : W (forL t b cl (rngL lo n)) ks Q env S :=
  W_inv (List.range n) (fun i => P.int (lo + (i : Nat))) E T J s0 he hS h0 (fun i y s hy hj => by
    obtain ⟨h1, h2⟩ := List.getElem?_eq_some_iff.mp hy
    rw [List.getElem_range] at h2
    rw [List.length_range] at h1
    rw [← h2]
    exact hs i s h1 hj) (fun s hj => hf s (by rw [List.length_range] at hj; exact hj))
/-- .. with the part that is done already -/
theorem W_pre {α σ : Type} {t : Tg} {b : SM} {cl : List Nat} (ys : List α) (g : α → P) (E : σ → Env) (T : σ → List O) (J : List α → σ → Prop) (s0 : σ) (he : env = E s0) (hS : S = T s0) (h0 : J [] s0)
    (hs : ∀ (d : List α) (y : α) (w : List α) (s : σ), ys = d ++ y :: w → J d s → wB b (IQ cl (fun e S' => ∃ s', e = E s' ∧ S' = T s' ∧ J (d ++ [y]) s') ks Q) (asg t (g y) (E s)) (T s))
    (hf : ∀ s, J ys s → Wn ks Q (E s) (T s)) : W (forL t b cl (ys.map g)) ks Q env S := by
  refine W_inv ys g E T (fun i s => J (ys.take i) s) s0 he hS (by simpa using h0) (fun i y s hy hj => ?_) (fun s hj => hf s (by simpa using hj))
  obtain ⟨hi, hy⟩ := List.getElem?_eq_some_iff.mp hy
  have h1 : ys = ys.take i ++ y :: ys.drop (i + 1) := by rw [← hy, List.getElem_cons_drop, List.take_append_drop]
  have h2 : ys.take (i + 1) = ys.take i ++ [y] := by rw [List.take_succ, List.getElem?_eq_getElem hi, hy]; rfl
  rw [h2]
  exact hs (ys.take i) y (ys.drop (i + 1)) s h1 hj
theorem W_mono {b : SM} {Q' : FQ} (h : W b ks Q env S) (hq : ∀ r S, Q r S → Q' r S) : W b ks Q' env S := by
  unfold W at h ⊢
  generalize b env S = o at h
  induction ks generalizing o with
  | nil =>
    cases o with
    | none => exact h
    | some r => exact hq _ _ h
  | cons k ks ih =>
    cases o with
    | none => exact h
    | some r =>
      obtain ⟨f, S1⟩ := r
      cases f with
      | nx e => exact ih _ h
      | rt v => exact hq _ _ h
      | bk e => exact hq _ _ h
      | ct e => exact hq _ _ h
      | ex c e => exact hq _ _ h
/-- a run of a def -/
theorem fn_W {k : Nat} {b : SM} {vs : List Val} {x : P} (h : W b [] (fun r S' => r = .rt (.p x) ∧ S'.take S.length = S1) (vs.map some ++ List.replicate (k - vs.length) none) S) (hc : closeO S1 = true) : runF k b vs S = some (.ok (.p x), S1) := by
  unfold W at h
  cases hb : b (vs.map some ++ List.replicate (k - vs.length) none) S with
  | none => rw [hb] at h; exact h.elim
  | some r =>
    obtain ⟨f, S'⟩ := r
    rw [hb] at h
    obtain ⟨h1, h2⟩ := h
    subst h1
    rw [run_of hb (by rw [h2]; exact hc), h2]
/-- .. of which but something is known -/
theorem fn_Wx {k : Nat} {b : SM} {vs : List Val} {R : P → List O → Prop} (h : W b [] (fun r S' => ∃ x, r = .rt (.p x) ∧ R x (S'.take S.length)) (vs.map some ++ List.replicate (k - vs.length) none) S) (hc : ∀ x S1, R x S1 → closeO S1 = true) : ∃ x S1, runF k b vs S = some (.ok (.p x), S1) ∧ R x S1 := by
  unfold W at h
  cases hb : b (vs.map some ++ List.replicate (k - vs.length) none) S with
  | none => rw [hb] at h; exact h.elim
  | some r =>
    obtain ⟨f, S'⟩ := r
    rw [hb] at h
    obtain ⟨x, h1, h2⟩ := h
    subst h1
    exact ⟨x, _, run_of hb (hc _ _ h2), h2⟩
end
end Z

end
section
namespace Z
open PySem L2
def b_rest_of : SM :=
    sRet (mP2 modP (mPn sumP [mSl (mVar 1) (some (mVar 2)) (some (mVar 3))]) (mP2 idxP (mVar 0) (mC (.int 1))))
def f_rest_of : Fn := runF 4 (b_rest_of)
def b_fits : SM :=
    sRet (mPn allP [mLc [2, 3, 4] (.tp [.nm 2, .nm 3, .nm 4]) (iSeq (mP2 idxP (mVar 0) (mC (.int 2)))) (tYesM) (mP2 eqP (mCall f_rest_of [mVar 0, mVar 1, mVar 2, mVar 3]) (mVar 4))])
def f_fits : Fn := runF 5 (b_fits)
def b_unfit : SM :=
    sSeq (sFor (.tp [.nm 2, .tp [.nm 3, .nm 4, .nm 5]]) (iEnumM (mP2 idxP (mVar 0) (mC (.int 2)))) (sIf (tB (mP2 neP (mCall f_rest_of [mVar 0, mVar 1, mVar 3, mVar 4]) (mVar 5))) (sRet (mVar 2)) (sPass)) [2, 3, 4, 5])
    (sRet (mC .non))
def f_unfit : Fn := runF 6 (b_unfit)
def b_l_same (g : Fn) : SM :=
    sSeq (sIf (tB (mP2 isP (mVar 1) (mC .non))) (sRet (mP2 isP (mVar 0) (mC .non))) (sPass))
    (sSeq (sIf (tTr (mP1 (isiQ "bool") (mVar 1))) (sRet (mAnd (mP1 (isiQ "bool") (mVar 0)) (mP2 eqP (mVar 0) (mVar 1)))) (sPass))
    (sSeq (sIf (tTr (mP1 (isiQ "tuple") (mVar 1))) (sSeq (sIf (tOrM (tNotM (tTr (mP1 (isiQ "tuple") (mVar 0)))) (tB (mP2 neP (mPn lenP [mVar 0]) (mPn lenP [mVar 1])))) (sRet (mC (.bl false))) (sPass))
      (sRet (mPn allP [mLc [2, 3] (.tp [.nm 2, .nm 3]) (iZipM (mVar 0) (mVar 1)) (tYesM) (mCall g [mVar 2, mVar 3])]))) (sPass))
    (sSeq (sIf (tTr (mP1 (isiQ "str") (mVar 1))) (sRet (mAnd (mP1 (isiQ "str") (mVar 0)) (mP2 eqP (mVar 0) (mVar 1)))) (sPass))
    (sRet (mAnd (mP1 (isiQ "int") (mVar 0)) (mAnd (mNot (mP1 (isiQ "bool") (mVar 0))) (mP2 eqP (mVar 0) (mVar 1))))))))
def f_l_same : Nat → Fn
  | 0 => fun _ _ => none
  | n + 1 => runF 4 (b_l_same (f_l_same n))
def b_l_draw : SM :=
    sSeq (sExpr (mMeth appV (mVar 1) (mC (.int 0))))
    (sSeq (sSet 3 (mPn lenP [mVar 1]))
    (sSeq (sSet 4 (mC (.int 0)))
    (sSeq (sIf (tTr (mVar 0)) (sSet 4 (mP2 idxP (mVar 0) (mP2 modP (mVar 3) (mPn lenP [mVar 0])))) (sPass))
    (sSeq (sSet 5 (mP2 modP (mP2 addP (mVar 4) (mP2 mulP (mC (.int 104729)) (mVar 3))) (mC (.int 4294967291))))
    (sSeq (sSet 5 (mP2 modP (mP2 mulP (mP2 modP (mP2 mulP (mVar 5) (mVar 5)) (mC (.int 4294967279))) (mC (.int 48271))) (mC (.int 4294967291))))
    (sRet (mP2 modP (mP2 fdivP (mVar 5) (mC (.int 64))) (mVar 2))))))))
def f_l_draw : Fn := runF 6 (b_l_draw)
def b_l_pick (d : Fn) : SM :=
    sRet (mP2 idxP (mVar 2) (mCall d [mVar 0, mVar 1, mPn lenP [mVar 2]]))
def f_l_pick (d : Fn) : Fn := runF 3 (b_l_pick d)
def b_l_row (d : Fn) : SM :=
    sRet (mPn tupleP [mLc [4] (.nm 4) (iRange1 (mVar 2)) (tYesM) (mCall d [mVar 0, mVar 1, mVar 3])])
def f_l_row (d : Fn) : Fn := runF 5 (b_l_row d)
def b_l_facts (d : Fn) : SM :=
    sSeq (sSet 5 (mCall (f_l_row d) [mVar 0, mVar 1, mVar 2, mVar 3]))
    (sSeq (sSet 6 (mCall d [mVar 0, mVar 1, mC (.int 3)]))
    (sSeq (sSet 7 (mTup []))
    (sSeq (sFor (.nm 8) (iRange1 (mCall d [mVar 0, mVar 1, mP2 addP (mVar 4) (mC (.int 1))])) (sSeq (sSet 9 (mCall d [mVar 0, mVar 1, mVar 2]))
      (sSeq (sSet 10 (mP2 addP (mP2 addP (mVar 9) (mC (.int 1))) (mCall d [mVar 0, mVar 1, mP2 subP (mVar 2) (mVar 9)])))
      (sSeq (sSet 11 (mP2 modP (mPn sumP [mSl (mVar 5) (some (mVar 9)) (some (mVar 10))]) (mVar 3)))
      (sSeq (sIf (tAndM (tB (mP2 eqP (mVar 6) (mC (.int 0)))) (tB (mP2 eqP (mCall d [mVar 0, mVar 1, mC (.int 3)]) (mC (.int 0))))) (sSet 11 (mCall d [mVar 0, mVar 1, mVar 3])) (sPass))
      (sSet 7 (mP2 addP (mVar 7) (mTup [mTup [mVar 9, mVar 10, mVar 11]]))))))) [8, 9, 10, 11])
    (sRet (mVar 7)))))
def f_l_facts (d : Fn) : Fn := runF 12 (b_l_facts d)
def b_l_sheet (d : Fn) : SM :=
    sRet (mTup [mVar 2, mVar 3, mCall (f_l_facts d) [mVar 0, mVar 1, mVar 2, mVar 3, mVar 4]])
def f_l_sheet (d : Fn) : Fn := runF 5 (b_l_sheet d)
def b_l_true (d : Fn) : SM :=
    sSeq (sSet 5 (mCall (f_l_row d) [mVar 0, mVar 1, mVar 2, mVar 3]))
    (sSeq (sSet 6 (mTup []))
    (sSeq (sFor (.nm 7) (iRange1 (mCall d [mVar 0, mVar 1, mP2 addP (mVar 4) (mC (.int 1))])) (sSeq (sSet 8 (mCall d [mVar 0, mVar 1, mVar 2]))
      (sSeq (sSet 9 (mP2 addP (mP2 addP (mVar 8) (mC (.int 1))) (mCall d [mVar 0, mVar 1, mP2 subP (mVar 2) (mVar 8)])))
      (sSet 6 (mP2 addP (mVar 6) (mTup [mTup [mVar 8, mVar 9, mP2 modP (mPn sumP [mSl (mVar 5) (some (mVar 8)) (some (mVar 9))]) (mVar 3)]]))))) [7, 8, 9])
    (sRet (mTup [mVar 5, mTup [mVar 2, mVar 3, mVar 6]]))))
def f_l_true (d : Fn) : Fn := runF 10 (b_l_true d)
def b_l_wide (d : Fn) : SM :=
    sSeq (sSet 3 (mP2 addP (mC (.int 1)) (mCall d [mVar 0, mVar 1, mC (.int 9)])))
    (sSeq (sSet 4 (mCall (f_l_pick d) [mVar 0, mVar 1, mLst [mC (.int 2), mP2 addP (mC (.int 2)) (mCall d [mVar 0, mVar 1, mC (.int 8)]), mP2 addP (mC (.int 2)) (mCall d [mVar 0, mVar 1, mC (.int 98)])]]))
    (sRet (mCall (f_l_sheet d) [mVar 0, mVar 1, mVar 3, mVar 4, mVar 2])))
def f_l_wide (d : Fn) : Fn := runF 5 (b_l_wide d)
def b_law_k02 (d : Fn) : SM :=
    sSeq (sSet 1 (mNewL []))
    (sSeq (sFor (.nm 2) (iRange1 (mC (.int 8))) (sSeq (sAsg (.tp [.nm 3, .nm 4, .nm 5]) (mCall (f_l_wide d) [mVar 0, mVar 1, mC (.int 12)]))
      (sSeq (sAsg (.tp [.nm 6, .nm 7]) (mCall (f_l_true d) [mVar 0, mVar 1, mVar 3, mVar 4, mC (.int 12)]))
      (sSeq (sIf (tOrM (tB (mP2 isNotP (mCall f_fits [mVar 7, mVar 6]) (mC (.bl true)))) (tB (mP2 isNotP (mCall f_unfit [mVar 7, mVar 6]) (mC .non)))) (sRet (mC (.bl false))) (sPass))
      (sSeq (sSet 8 (mCall d [mVar 0, mVar 1, mVar 3]))
      (sSeq (sSet 9 (mP2 addP (mP2 addP (mSl (mVar 6) none (some (mVar 8))) (mTup [mP2 modP (mP2 addP (mP2 idxP (mVar 6) (mVar 8)) (mC (.int 1))) (mVar 4)])) (mSl (mVar 6) (some (mP2 addP (mVar 8) (mC (.int 1)))) none)))
      (sSeq (sFor (.nm 10) (iSeq (mLst [mTup [mVar 3, mVar 4, mVar 5], mVar 7])) (sFor (.nm 11) (iSeq (mLst [mVar 6, mVar 9, mCall (f_l_row d) [mVar 0, mVar 1, mVar 3, mVar 4]])) (sSeq (sSet 12 (mC .non))
          (sSeq (sFor (.tp [.nm 13, .tp [.nm 14, .nm 15, .nm 16]]) (iEnumM (mP2 idxP (mVar 10) (mC (.int 2)))) (sSeq (sSet 17 (mC (.int 0)))
            (sSeq (sFor (.nm 18) (iRange2 (mVar 14) (mVar 15)) (sSet 17 (mP2 addP (mVar 17) (mP2 idxP (mVar 11) (mVar 18)))) [18])
            (sIf (tAndM (tB (mP2 neP (mP2 subP (mVar 17) (mP2 mulP (mP2 fdivP (mVar 17) (mVar 4)) (mVar 4))) (mVar 16))) (tB (mP2 isP (mVar 12) (mC .non)))) (sSet 12 (mVar 13)) (sPass)))) [13, 14, 15, 16, 17, 18])
          (sIf (tNotM (tTr (mCall (f_l_same 8) [mTup [mCall f_fits [mVar 10, mVar 11], mCall f_unfit [mVar 10, mVar 11]], mTup [mP2 isP (mVar 12) (mC .non), mVar 12]]))) (sRet (mC (.bl false))) (sPass)))) [11, 12, 13, 14, 15, 16, 17, 18]) [10, 11, 12, 13, 14, 15, 16, 17, 18])
      (sFor (.nm 14) (iRange1 (mVar 3)) (sFor (.nm 15) (iRange2 (mP2 addP (mVar 14) (mC (.int 1))) (mP2 addP (mVar 3) (mC (.int 1)))) (sSeq (sSet 17 (mPn sumP [mSl (mVar 6) (some (mVar 14)) (some (mVar 15))]))
          (sIf (tNotM (tTr (mCall (f_l_same 8) [mCall f_rest_of [mVar 7, mVar 6, mVar 14, mVar 15], mP2 subP (mVar 17) (mP2 mulP (mP2 fdivP (mVar 17) (mVar 4)) (mVar 4))]))) (sRet (mC (.bl false))) (sPass))) [15, 17]) [14, 15, 17]))))))) [2, 3, 4, 5, 6, 7, 8, 9, 10, 11, 12, 13, 14, 15, 16, 17, 18])
    (sRet (mC (.bl true))))
def f_law_k02 (d : Fn) : Fn := runF 19 (b_law_k02 d)
end Z

end
section
namespace Z
open PySem L2
/-! ### _law_same -/
mutual
def pln : Nat → P → Bool
  | _, .non => true
  | _, .bl _ => true
  | _, .int _ => true
  | _, .str x => x.cps.all (· < 0x110000)
  | n + 1, .tup xs => decide (xs.length ≤ 1000000) && plns n xs
  | _, _ => false
def plns : Nat → List P → Bool
  | _, [] => true
  | n, x :: xs => pln n x && plns n xs
end
theorem plns_all : ∀ {n : Nat} {xs : List P}, plns n xs = true → ∀ x ∈ xs, pln n x = true
  | _, [], _, _, h => by simp at h
  | n, y :: ys, h, x, hx => by
    simp only [plns, Bool.and_eq_true] at h
    rcases List.mem_cons.mp hx with z | z
    · rw [z]; exact h.1
    · exact plns_all h.2 x z
theorem zip_self : ∀ xs : List P, zipL xs xs = xs.map fun x => .tup [x, x]
  | [] => rfl
  | x :: xs => by simp [zip_self xs]
theorem bolsOf_const {α : Type} : ∀ xs : List α, bolsOf (xs.map fun _ => P.bl true) = some (xs.map fun _ => true)
  | [] => rfl
  | x :: xs => by simp [bolsOf, bolsOf_const xs]
theorem eqP_str_self (x : Str) (h : (x.cps.all (· < 0x110000)) = true) : eqP (.str x) (.str x) = some (.bl true) := by
  simp [eqP, lay, eqB, h]
theorem eqP_bl (a b : Bool) : eqP (.bl a) (.bl b) = some (.bl (a == b)) := by simp [eqP, lay, eqB]
theorem same_refl : ∀ (n : Nat) (x : P), pln n x = true → f_l_same (n + 1) [.p x, .p x] [] = some (.ok (.p (.bl true)), []) := by
  intro n
  induction n with
  | zero =>
    intro x h
    show runF 4 (b_l_same (f_l_same 0)) _ _ = _
    cases x <;> simp [pln] at h <;> simp [runF, b_l_same, isiQ, isiT, eqP_bl, eqP_str_self, h]
  | succ n ih =>
    intro x h
    show runF 4 (b_l_same (f_l_same (n + 1))) _ _ = _
    cases x <;> simp [pln] at h <;> simp [runF, b_l_same, isiQ, isiT, eqP_bl, eqP_str_self, h]
    rw [zip_self, lcL_map (fun x => .tup [x, x]) (fun _ => .bl true) _ [] (fun x hx => ⟨_, rfl, by simp [ih x (plns_all h.2 x hx)]⟩) (by simpa using sz h.1)]
    simp [bolsOf_const]
/-! ### _law_draw and what draws -/
theorem emod_r (a m : Int) (h : 0 < m) : 0 ≤ a % m ∧ a % m < m := ⟨Int.emod_nonneg a (by omega), Int.emod_lt_of_pos a h⟩
theorem mul_ok (a b : Int) (h : (-(2 ^ 64) < a ∧ a < 2 ^ 64) ∨ (-(2 ^ 64) < b ∧ b < 2 ^ 64)) : mulP (.int a) (.int b) = some (.int (a * b)) := if_pos h
theorem mul_m1 (a b : Int) : mulP (.int (a % 4294967291)) (.int b) = some (.int (a % 4294967291 * b)) := mul_ok _ _ (.inl (by omega))
theorem mul_m2 (a b : Int) : mulP (.int (a % 4294967279)) (.int b) = some (.int (a % 4294967279 * b)) := mul_ok _ _ (.inl (by omega))
theorem mul_k1 (b : Int) : mulP (.int 104729) (.int b) = some (.int (104729 * b)) := mul_ok _ _ (.inl (by omega))
theorem tw_len (n : Nat) : lenP [.lst (List.replicate n (P.int 0))] = some (.int n) := by simp
theorem atI_mod (x : Int) (xs : List Int) (k : Int) : ∃ c, atI (x :: xs) (k % ((x :: xs).length : Int)) = some c := by
  obtain ⟨h1, h2⟩ := emod_r k ((x :: xs).length : Int) (by simp)
  obtain ⟨j, hj⟩ := Int.eq_ofNat_of_zero_le h1
  rw [hj] at h2 ⊢
  exact ⟨_, atI_lt (x :: xs) j (by omega)⟩
theorem draw_fin (m c : Int) (hm : 0 < m) : ∃ r : Nat, (r : Int) < m ∧ (c / 64 % m) = r := by
  obtain ⟨h1, h2⟩ := emod_r (c / 64) m hm
  obtain ⟨j, hj⟩ := Int.eq_ofNat_of_zero_le h1
  exact ⟨j, by omega, hj⟩
def t_l_draw : SM :=
    sSeq (sSet 5 (mP2 modP (mP2 addP (mVar 4) (mP2 mulP (mC (.int 104729)) (mVar 3))) (mC (.int 4294967291))))
    (sSeq (sSet 5 (mP2 modP (mP2 mulP (mP2 modP (mP2 mulP (mVar 5) (mVar 5)) (mC (.int 4294967279))) (mC (.int 48271))) (mC (.int 4294967291))))
    (sRet (mP2 modP (mP2 fdivP (mVar 5) (mC (.int 64))) (mVar 2))))
theorem draw_t1 (a b : Option Val) (m k c : Int) (S : List O) : (sSet 5 (mP2 modP (mP2 addP (mVar 4) (mP2 mulP (mC (.int 104729)) (mVar 3))) (mC (.int 4294967291)))) [a, b, some (.p (.int m)), some (.p (.int k)), some (.p (.int c)), none] S
    = some (.nx [a, b, some (.p (.int m)), some (.p (.int k)), some (.p (.int c)), some (.p (.int ((c + 104729 * k) % 4294967291)))], S) := by
  simp [mul_k1]
theorem draw_t2 (a b : Option Val) (m k c x : Int) (S : List O) (hx : 0 ≤ x ∧ x < 4294967291) : ∃ y, (sSet 5 (mP2 modP (mP2 mulP (mP2 modP (mP2 mulP (mVar 5) (mVar 5)) (mC (.int 4294967279))) (mC (.int 48271))) (mC (.int 4294967291)))) [a, b, some (.p (.int m)), some (.p (.int k)), some (.p (.int c)), some (.p (.int x))] S
    = some (.nx [a, b, some (.p (.int m)), some (.p (.int k)), some (.p (.int c)), some (.p (.int y))], S) ∧ 0 ≤ y ∧ y < 4294967291 := by
  refine ⟨x * x % 4294967279 * 48271 % 4294967291, ?_, by omega, by omega⟩
  generalize hz : x * x % 4294967279 = z
  simp [mul_ok x x (.inl (by omega)), hz, mul_ok z 48271 (.inr (by omega))]
theorem draw_t3 (a b : Option Val) (m k c x : Int) (S : List O) (hm : 0 < m) : (sRet (mP2 modP (mP2 fdivP (mVar 5) (mC (.int 64))) (mVar 2))) [a, b, some (.p (.int m)), some (.p (.int k)), some (.p (.int c)), some (.p (.int x))] S
    = some (.rt (.p (.int (x / 64 % m))), S) := by
  simp [hm]
theorem draw_tail (a b : Option Val) (m k c : Int) (S : List O) (hm : 0 < m) : ∃ r : Nat, (r : Int) < m ∧ t_l_draw [a, b, some (.p (.int m)), some (.p (.int k)), some (.p (.int c)), none] S = some (.rt (.p (.int r)), S) := by
  unfold t_l_draw
  rw [sSeq_nx (draw_t1 a b m k c S)]
  obtain ⟨y, h1, _⟩ := draw_t2 a b m k c _ S (emod_r (c + 104729 * k) 4294967291 (by omega))
  rw [sSeq_nx h1, draw_t3 a b m k c y S hm]
  obtain ⟨r, h3, h4⟩ := draw_fin m y hm
  exact ⟨r, h3, by rw [h4]⟩
/-- what every drawer keeps -/
def DrawOk (d : Fn) : Prop := ∀ (ns : List Int) (n : Nat) (m : Int), 0 < m → n < 900000 → ∃ r : Nat, (r : Int) < m ∧ d [.p (.fz ns), .ref 0, .p (.int m)] [tw n] = some (.ok (.p (.int r)), [tw (n + 1)])
def h_l_draw (T : SM) : SM := sSeq (sExpr (mMeth appV (mVar 1) (mC (.int 0)))) (sSeq (sSet 3 (mPn lenP [mVar 1])) (sSeq (sSet 4 (mC (.int 0))) (sSeq (sIf (tTr (mVar 0)) (sSet 4 (mP2 idxP (mVar 0) (mP2 modP (mVar 3) (mPn lenP [mVar 0])))) (sPass)) T)))
theorem h_draw_nil (T : SM) (n : Nat) (m : Int) (hz : n < sizeLine) : h_l_draw T [some (.p (.fz [])), some (.ref 0), some (.p (.int m)), none, none, none] [tw n] = T [some (.p (.fz [])), some (.ref 0), some (.p (.int m)), some (.p (.int ((n + 1 : Nat) : Int))), some (.p (.int 0)), none] [tw (n + 1)] := by
  simp [h_l_draw, tw, hz, List.replicate_succ']
theorem h_draw_cons (T : SM) (n : Nat) (m : Int) (x : Int) (xs : List Int) (hz : n < sizeLine) : ∃ c, h_l_draw T [some (.p (.fz (x :: xs))), some (.ref 0), some (.p (.int m)), none, none, none] [tw n] = T [some (.p (.fz (x :: xs))), some (.ref 0), some (.p (.int m)), some (.p (.int ((n + 1 : Nat) : Int))), some (.p (.int c)), none] [tw (n + 1)] := by
  obtain ⟨c, hc⟩ := atI_mod x xs ((n + 1 : Nat) : Int)
  simp only [List.length_cons, Int.natCast_add, Int.natCast_one] at hc
  refine ⟨c, ?_⟩
  simp [h_l_draw, tw, hz, List.replicate_succ', hc]
theorem draw_ok : DrawOk f_l_draw := by
  intro ns n m hm hn
  have hz : n < sizeLine := sz' (by omega)
  have key : ∃ r : Nat, (r : Int) < m ∧ h_l_draw t_l_draw [some (.p (.fz ns)), some (.ref 0), some (.p (.int m)), none, none, none] [tw n] = some (.rt (.p (.int r)), [tw (n + 1)]) := by
    cases ns with
    | nil => rw [h_draw_nil _ _ _ hz]; exact draw_tail _ _ m _ _ _ hm
    | cons x xs =>
      obtain ⟨c, hc⟩ := h_draw_cons t_l_draw n m x xs hz
      rw [hc]; exact draw_tail _ _ m _ _ _ hm
  obtain ⟨r, h1, h2⟩ := key
  have e : f_l_draw = runF 6 (h_l_draw t_l_draw) := rfl
  rw [e]
  exact ⟨r, h1, run_of (k := 6) (vs := [.p (.fz ns), .ref 0, .p (.int m)]) (S := [tw n]) (S1 := [tw (n + 1)]) (b := h_l_draw t_l_draw) h2 rfl⟩
end Z

end
section
namespace Z
open PySem L2
def RowIn (m : Int) (r : List Int) : Prop := ∀ x ∈ r, 0 ≤ x ∧ x < m
theorem row_lc {d : Fn} (hd : DrawOk d) (ns : List Int) (n long : Nat) (m : Int) (a : Option Val) (hm : 0 < m) (hl : long ≤ 1000) (hn : n < 800000) :
    ∃ row : List Int, row.length = long ∧ RowIn m row ∧ lcL (Tg.nm 4) tYesM (mCall d [mVar 0, mVar 1, mVar 3]) [some (.p (.fz ns)), some (.ref 0), a, some (.p (.int m)), none] (rngL 0 long) [] [tw n] = some (.ok (.p (.lst (row.map P.int))), [tw (n + long)]) := by
  have hlen : ([] : List P).length + (rngL 0 long).length ≤ sizeLine := by simp [rngL]; exact sz (by omega)
  obtain ⟨acc, S, h1, row, h2, h3, h4, h5⟩ := lcL_inv (t := .nm 4) (e := mCall d [mVar 0, mVar 1, mVar 3]) (env := [some (.p (.fz ns)), some (.ref 0), a, some (.p (.int m)), none])
    (fun k acc S => ∃ row : List Int, acc = row.map P.int ∧ row.length = k ∧ RowIn m row ∧ S = [tw (n + k)]) (rngL 0 long) 0 [] [tw n] ⟨[], rfl, rfl, fun x hx => by simp at hx, rfl⟩ hlen (by
      rintro i x acc S hx ⟨row, h2, h3, h4, h5⟩
      have hi : i < long := by
        have := (List.getElem?_eq_some_iff.mp hx).1
        simpa [rngL] using this
      rw [Nat.zero_add] at h3 h5 ⊢
      obtain ⟨r, h6, h7⟩ := hd ns (n + i) m hm (by omega)
      refine ⟨_, .int r, [tw (n + (i + 1))], rfl, ?_, row ++ [(r : Int)], by simp [h2], by simp [h3], fun y hy => ?_, rfl⟩
      · rw [h5, ← Nat.add_assoc]
        simp only [tw] at h7 ⊢
        simp [h7]
      · rcases List.mem_append.mp hy with z | z
        · exact h4 y z
        · rw [List.mem_singleton.mp z]; omega)
  have hr : (rngL 0 long).length = long := by simp [rngL]
  rw [Nat.zero_add, hr] at h3 h5
  exact ⟨row, h3, h4, by rw [h1, h2, h5]⟩
theorem row_fin (d : Fn) (ns : List Int) (n long : Nat) (m : Int) (hl : long ≤ 1000) (row : List Int) (h1 : lcL (Tg.nm 4) tYesM (mCall d [mVar 0, mVar 1, mVar 3])
      [some (Val.p (P.fz ns)), some (Val.ref 0), some (Val.p (P.int long)), some (Val.p (P.int m)), none] (rngL 0 long) [] [tw n] =
    some (Rs.ok (Val.p (P.lst (List.map P.int row))), [tw (n + long)])) : f_l_row d [.p (.fz ns), .ref 0, .p (.int long), .p (.int m)] [tw n] = some (.ok (.p (rowP row)), [tw (n + long)]) := by
  have hb : smB (long : Int) = true := smB_nat (by omega)
  simp [f_l_row, runF, b_l_row, h1, hb]
  rfl
theorem row_ok {d : Fn} (hd : DrawOk d) (ns : List Int) (n long : Nat) (m : Int) (hm : 0 < m) (hl : long ≤ 1000) (hn : n < 800000) :
    ∃ row : List Int, row.length = long ∧ RowIn m row ∧ f_l_row d [.p (.fz ns), .ref 0, .p (.int long), .p (.int m)] [tw n] = some (.ok (.p (rowP row)), [tw (n + long)]) := by
  obtain ⟨row, h1, h2, h3⟩ := row_lc hd ns n long m (some (.p (.int long))) hm hl hn
  exact ⟨row, h1, h2, row_fin d ns n long m hl row h3⟩
def Good (long : Nat) (m : Int) (fs : List Fact) : Prop := ∀ f ∈ fs, f.1 < f.2.1 ∧ f.2.1 ≤ long ∧ 0 ≤ f.2.2 ∧ f.2.2 < m
theorem factsP_add (fs : List Fact) (a b : Nat) (c : Int) (h : fs.length < 1000000) : addP (factsP fs) (.tup [.tup [.int a, .int b, .int c]]) = some (factsP (fs ++ [(a, b, c)])) := by
  have := sz (show fs.length + 1 ≤ 1000000 by omega)
  simp [factsP, factP, this]
/-! ### _law_facts -/
def w_l_facts (d : Fn) : SM := (sSeq (sSet 9 (mCall d [mVar 0, mVar 1, mVar 2]))
      (sSeq (sSet 10 (mP2 addP (mP2 addP (mVar 9) (mC (.int 1))) (mCall d [mVar 0, mVar 1, mP2 subP (mVar 2) (mVar 9)])))
      (sSeq (sSet 11 (mP2 modP (mPn sumP [mSl (mVar 5) (some (mVar 9)) (some (mVar 10))]) (mVar 3)))
      (sSeq (sIf (tAndM (tB (mP2 eqP (mVar 6) (mC (.int 0)))) (tB (mP2 eqP (mCall d [mVar 0, mVar 1, mC (.int 3)]) (mC (.int 0))))) (sSet 11 (mCall d [mVar 0, mVar 1, mVar 3])) (sPass))
      (sSet 7 (mP2 addP (mVar 7) (mTup [mTup [mVar 9, mVar 10, mVar 11]])))))))
theorem facts_s1 {d : Fn} {ns : List Int} {n r : Nat} {m : Int} {c e f g h i j k l x : Option Val} (hx : x = some (.p (.int m))) (hd : d [.p (.fz ns), .ref 0, .p (.int m)] [tw n] = some (.ok (.p (.int r)), [tw (n + 1)])) :
    sSet 9 (mCall d [mVar 0, mVar 1, mVar 2]) [some (.p (.fz ns)), some (.ref 0), x, c, e, f, g, h, i, j, k, l] [tw n] = some (.nx [some (.p (.fz ns)), some (.ref 0), x, c, e, f, g, h, i, some (.p (.int r)), k, l], [tw (n + 1)]) := by
  simp [hx, hd]
theorem facts_s2 {d : Fn} {ns : List Int} {n long r s : Nat} {c e f g h i k l : Option Val} (hd : d [.p (.fz ns), .ref 0, .p (.int (long - r))] [tw n] = some (.ok (.p (.int s)), [tw (n + 1)])) :
    sSet 10 (mP2 addP (mP2 addP (mVar 9) (mC (.int 1))) (mCall d [mVar 0, mVar 1, mP2 subP (mVar 2) (mVar 9)])) [some (.p (.fz ns)), some (.ref 0), some (.p (.int long)), c, e, f, g, h, i, some (.p (.int r)), k, l] [tw n]
     = some (.nx [some (.p (.fz ns)), some (.ref 0), some (.p (.int long)), c, e, f, g, h, i, some (.p (.int r)), some (.p (.int ((r + 1 + s : Nat) : Int))), l], [tw (n + 1)]) := by
  simp [hd]
theorem facts_s3 {a b c e g h i l : Option Val} {m : Int} {row : List Int} {r s : Nat} {S : List O} (hm : 0 < m) :
    sSet 11 (mP2 modP (mPn sumP [mSl (mVar 5) (some (mVar 9)) (some (mVar 10))]) (mVar 3)) [a, b, c, some (.p (.int m)), e, some (.p (rowP row)), g, h, i, some (.p (.int r)), some (.p (.int s)), l] S
     = some (.nx [a, b, c, some (.p (.int m)), e, some (.p (rowP row)), g, h, i, some (.p (.int r)), some (.p (.int s)), some (.p (.int (((row.drop r).take (s - r)).sum % m)))], S) := by
  simp [hm]
theorem facts_s4 {d : Fn} (hd : DrawOk d) {ns : List Int} {n q : Nat} {c e f h i j k : Option Val} {m v : Int} (hm : 0 < m) (hn : n + 1 < 900000) (hv : 0 ≤ v ∧ v < m) :
    ∃ v' n', 0 ≤ v' ∧ v' < m ∧ n' ≤ n + 2 ∧ (sIf (tAndM (tB (mP2 eqP (mVar 6) (mC (.int 0)))) (tB (mP2 eqP (mCall d [mVar 0, mVar 1, mC (.int 3)]) (mC (.int 0))))) (sSet 11 (mCall d [mVar 0, mVar 1, mVar 3])) (sPass)) [some (.p (.fz ns)), some (.ref 0), c, some (.p (.int m)), e, f, some (.p (.int q)), h, i, j, k, some (.p (.int v))] [tw n]
     = some (.nx [some (.p (.fz ns)), some (.ref 0), c, some (.p (.int m)), e, f, some (.p (.int q)), h, i, j, k, some (.p (.int v'))], [tw n']) := by
  by_cases hq : q = 0
  · obtain ⟨r, _, h1⟩ := hd ns n 3 (by omega) (by omega)
    by_cases hr : r = 0
    · obtain ⟨s, h2, h3⟩ := hd ns (n + 1) m hm (by omega)
      refine ⟨s, n + 2, by omega, h2, by omega, ?_⟩
      clear hn hv
      simp [hq, h1, hr, h3]
    · refine ⟨v, n + 1, hv.1, hv.2, by omega, ?_⟩
      clear hn hv
      simp [hq, h1, hr]
  · refine ⟨v, n, hv.1, hv.2, by omega, ?_⟩
    clear hn hv
    simp [hq]
theorem facts_s5 {a b c e f g i l : Option Val} {fs : List Fact} {r s : Nat} {v : Int} {S : List O} (hf : fs.length < 1000000) :
    sSet 7 (mP2 addP (mVar 7) (mTup [mTup [mVar 9, mVar 10, mVar 11]])) [a, b, c, e, f, g, i, some (.p (factsP fs)), l, some (.p (.int r)), some (.p (.int s)), some (.p (.int v))] S
     = some (.nx [a, b, c, e, f, g, i, some (.p (factsP (fs ++ [(r, s, v)]))), l, some (.p (.int r)), some (.p (.int s)), some (.p (.int v))], S) := by
  have h := factsP_add fs r s v hf
  clear hf
  generalize factsP fs = x at h ⊢
  simp [h]
theorem facts_body {d : Fn} (hd : DrawOk d) {ns : List Int} {n q long : Nat} {e i : Option Val} {m : Int} {row : List Int} {fs : List Fact} (hm : 0 < m) (hn : n + 4 < 900000) (hf : fs.length < 1000000) (hl : 0 < long) (hg : Good long m fs) :
    ∃ fs' n' b1 b2 b3, Good long m fs' ∧ fs'.length = fs.length + 1 ∧ n' ≤ n + 4 ∧ w_l_facts d [some (.p (.fz ns)), some (.ref 0), some (.p (.int long)), some (.p (.int m)), e, some (.p (rowP row)), some (.p (.int q)), some (.p (factsP fs)), i, none, none, none] [tw n]
     = some (.nx [some (.p (.fz ns)), some (.ref 0), some (.p (.int long)), some (.p (.int m)), e, some (.p (rowP row)), some (.p (.int q)), some (.p (factsP fs')), i, b1, b2, b3], [tw n']) := by
  obtain ⟨r, h1, h2⟩ := hd ns n long (by omega) (by omega)
  obtain ⟨s, h3, h4⟩ := hd ns (n + 1) (long - r) (by omega) (by omega)
  obtain ⟨v, n', h5, h6, h7, h8⟩ := facts_s4 hd (ns := ns) (n := n + 1 + 1) (q := q) (c := some (.p (.int long))) (e := e) (f := some (.p (rowP row))) (h := some (.p (factsP fs))) (i := i) (j := some (.p (.int r))) (k := some (.p (.int ((r + 1 + s : Nat) : Int)))) hm (by omega) (emod_r ((row.drop r).take (r + 1 + s - r)).sum m hm)
  refine ⟨fs ++ [(r, r + 1 + s, v)], n', some (.p (.int r)), some (.p (.int ((r + 1 + s : Nat) : Int))), some (.p (.int v)), ?_, by simp, by omega, ?_⟩
  · intro f hf
    rcases List.mem_append.mp hf with z | z
    · exact hg f z
    · rw [List.mem_singleton.mp z]; refine ⟨by show r < r + 1 + s; omega, by show r + 1 + s ≤ long; omega, h5, h6⟩
  · unfold w_l_facts
    rw [sSeq_nx (facts_s1 rfl h2), sSeq_nx (facts_s2 h4), sSeq_nx (facts_s3 hm), sSeq_nx h8]
    exact facts_s5 hf
end Z

end
section
namespace Z
open PySem L2
theorem facts_set5 {d : Fn} {ns : List Int} {n n' long : Nat} {m : Int} {row : P} {e f g h i j k l : Option Val} (hd : f_l_row d [.p (.fz ns), .ref 0, .p (.int long), .p (.int m)] [tw n] = some (.ok (.p row), [tw n'])) :
    sSet 5 (mCall (f_l_row d) [mVar 0, mVar 1, mVar 2, mVar 3]) [some (.p (.fz ns)), some (.ref 0), some (.p (.int long)), some (.p (.int m)), e, f, g, h, i, j, k, l] [tw n] = some (.nx [some (.p (.fz ns)), some (.ref 0), some (.p (.int long)), some (.p (.int m)), e, some (.p row), g, h, i, j, k, l], [tw n']) := by
  generalize f_l_row d = F at hd ⊢
  simp [hd]
theorem facts_set6 {d : Fn} {ns : List Int} {n r : Nat} {b c e f g h i j k l : Option Val} (hd : d [.p (.fz ns), .ref 0, .p (.int 3)] [tw n] = some (.ok (.p (.int r)), [tw (n + 1)])) :
    sSet 6 (mCall d [mVar 0, mVar 1, mC (.int 3)]) [some (.p (.fz ns)), some (.ref 0), b, c, e, f, g, h, i, j, k, l] [tw n] = some (.nx [some (.p (.fz ns)), some (.ref 0), b, c, e, f, some (.p (.int r)), h, i, j, k, l], [tw (n + 1)]) := by
  simp [hd]
theorem facts_iter {d : Fn} {ns : List Int} {n r : Nat} {most : Int} {b c f g h i j k l : Option Val} (hr : r ≤ 1000000) (hd : d [.p (.fz ns), .ref 0, .p (.int (most + 1))] [tw n] = some (.ok (.p (.int r)), [tw (n + 1)])) :
    iRange1 (mCall d [mVar 0, mVar 1, mP2 addP (mVar 4) (mC (.int 1))]) [some (.p (.fz ns)), some (.ref 0), b, c, some (.p (.int most)), f, g, h, i, j, k, l] [tw n] = some (.ok (rngL 0 r), [tw (n + 1)]) := by
  have := smB_nat hr
  simp [hd, this]
theorem facts_loop {d : Fn} (hd : DrawOk d) {ns : List Int} {n q long r : Nat} {e : Option Val} {m : Int} {row : List Int} (hm : 0 < m) (hr : r ≤ 1000) (hn : n < 800000) (hl : 0 < long) :
    ∃ fs n', Good long m fs ∧ fs.length = r ∧ n' ≤ n + 4 * r ∧ forL (.nm 8) (w_l_facts d) [8, 9, 10, 11] (rngL 0 r) [some (.p (.fz ns)), some (.ref 0), some (.p (.int long)), some (.p (.int m)), e, some (.p (rowP row)), some (.p (.int q)), some (.p (factsP [])), none, none, none, none] [tw n]
     = some (.nx [some (.p (.fz ns)), some (.ref 0), some (.p (.int long)), some (.p (.int m)), e, some (.p (rowP row)), some (.p (.int q)), some (.p (factsP fs)), none, none, none, none], [tw n']) := by
  have hlen : (rngL 0 r).length = r := by simp [rngL]
  obtain ⟨e', S', h1, fs, n', h2, h3, h4, h5, h6⟩ := forL_inv (t := .nm 8) (b := w_l_facts d) (cl := [8, 9, 10, 11]) (fun k en S => ∃ fs n', Good long m fs ∧ fs.length = k ∧ n' ≤ n + 4 * k ∧ en = [some (.p (.fz ns)), some (.ref 0), some (.p (.int long)), some (.p (.int m)), e, some (.p (rowP row)), some (.p (.int q)), some (.p (factsP fs)), none, none, none, none] ∧ S = [tw n'])
    (rngL 0 r) 0 _ _ ⟨[], n, fun f hf => by simp at hf, rfl, by omega, rfl, rfl⟩ (by
      rintro i x en S hx ⟨fs, n', h2, h3, h4, h5, h6⟩
      have hi : i < r := by
        have := (List.getElem?_eq_some_iff.mp hx).1
        omega
      obtain ⟨fs', n2, b1, b2, b3, g1, g2, g3, g4⟩ := facts_body hd (ns := ns) (n := n') (q := q) (long := long) (e := e) (i := some (.p x)) (row := row) (fs := fs) hm (by omega) (by omega) hl h2
      refine ⟨_, _, _, by rw [h5]; rfl, .inl (by rw [h6]; exact g4), fs', n2, g1, by omega, by omega, rfl, rfl⟩)
  rw [hlen, Nat.zero_add] at h3 h4
  exact ⟨fs, n', h2, h3, h4, by rw [h1, h5, h6]⟩
theorem facts_ok {d : Fn} (hd : DrawOk d) (ns : List Int) (n long : Nat) (m most : Int) (hm : 0 < m) (hl : 0 < long) (hl2 : long ≤ 1000) (hn : n < 700000) (h0 : 0 ≤ most) (h1 : most ≤ 1000) :
    ∃ fs n', Good long m fs ∧ (fs.length : Int) ≤ most ∧ n' ≤ n + 6000 ∧ f_l_facts d [.p (.fz ns), .ref 0, .p (.int long), .p (.int m), .p (.int most)] [tw n] = some (.ok (.p (factsP fs)), [tw n']) := by
  obtain ⟨row, g1, g2, g3⟩ := row_ok hd ns n long m hm hl2 (by omega)
  obtain ⟨q, g4, g5⟩ := hd ns (n + long) 3 (by omega) (by omega)
  obtain ⟨r, g6, g7⟩ := hd ns (n + long + 1) (most + 1) (by omega) (by omega)
  obtain ⟨fs, n', g8, g9, g10, g11⟩ := facts_loop hd (ns := ns) (n := n + long + 1 + 1) (q := q) (long := long) (r := r) (e := some (.p (.int most))) (m := m) (row := row) hm (by omega) (by omega) hl
  refine ⟨fs, n', g8, by omega, by omega, ?_⟩
  refine run_p (k := 12) (env := [some (.p (.fz ns)), some (.ref 0), some (.p (.int long)), some (.p (.int m)), some (.p (.int most)), none, none, none, none, none, none, none]) rfl ?_ rfl rfl
  unfold b_l_facts
  rw [sSeq_nx (facts_set5 g3), sSeq_nx (facts_set6 g5)]
  rw [sSeq_nx (show sSet 7 (mTup []) _ _ = some (.nx [some (.p (.fz ns)), some (.ref 0), some (.p (.int long)), some (.p (.int m)), some (.p (.int most)), some (.p (rowP row)), some (.p (.int q)), some (.p (factsP [])), none, none, none, none], _) from rfl)]
  refine (sSeq_nx (for_it (facts_iter (by omega) g7) g11)).trans ?_
  rfl
/-! ### _law_pick, _law_sheet, _law_wide -/
theorem pick_ok {d : Fn} (hd : DrawOk d) (ns : List Int) (n : Nat) (xs : List P) (hx : 0 < xs.length) (hn : n < 800000) :
    ∃ x ∈ xs, f_l_pick d [.p (.fz ns), .ref 0, .p (.lst xs)] [tw n] = some (.ok (.p x), [tw (n + 1)]) := by
  obtain ⟨r, h1, h2⟩ := hd ns n xs.length (by omega) (by omega)
  have hr : r < xs.length := by omega
  refine ⟨xs[r], List.getElem_mem hr, ?_⟩
  have h3 := atI_lt xs r hr
  generalize xs[r] = y at h3 ⊢
  refine run_p (k := 3) (env := [some (.p (.fz ns)), some (.ref 0), some (.p (.lst xs))]) rfl ?_ rfl rfl
  clear hn hr hx h1
  unfold b_l_pick
  simp [h2, h3]
theorem sheet_ok {d : Fn} (hd : DrawOk d) (ns : List Int) (n long : Nat) (m most : Int) (hm : 0 < m) (hl : 0 < long) (hl2 : long ≤ 1000) (hn : n < 700000) (h0 : 0 ≤ most) (h1 : most ≤ 1000) :
    ∃ fs n', Good long m fs ∧ (fs.length : Int) ≤ most ∧ n' ≤ n + 6000 ∧ f_l_sheet d [.p (.fz ns), .ref 0, .p (.int long), .p (.int m), .p (.int most)] [tw n] = some (.ok (.p (shP long m fs)), [tw n']) := by
  obtain ⟨fs, n', g1, g2, g3, g4⟩ := facts_ok hd ns n long m most hm hl hl2 hn h0 h1
  refine ⟨fs, n', g1, g2, g3, ?_⟩
  clear g3 g2 g1 hn h0 h1 hl2
  refine run_p (k := 5) (env := [some (.p (.fz ns)), some (.ref 0), some (.p (.int long)), some (.p (.int m)), some (.p (.int most))]) rfl ?_ rfl rfl
  unfold b_l_sheet
  generalize f_l_facts d = F at g4 ⊢
  simp [g4, shP]
theorem wide_s1 {d : Fn} {ns : List Int} {n r : Nat} {b c e : Option Val} (h1 : d [.p (.fz ns), .ref 0, .p (.int 9)] [tw n] = some (.ok (.p (.int r)), [tw (n + 1)])) :
    sSet 3 (mP2 addP (mC (.int 1)) (mCall d [mVar 0, mVar 1, mC (.int 9)])) [some (.p (.fz ns)), some (.ref 0), b, c, e] [tw n] = some (.nx [some (.p (.fz ns)), some (.ref 0), b, some (.p (.int ((r + 1 : Nat) : Int))), e], [tw (n + 1)]) := by
  simp [h1, Int.add_comm]
theorem wide_s2 {d F : Fn} {ns : List Int} {n p q : Nat} {x : P} {b c e : Option Val} (h1 : d [.p (.fz ns), .ref 0, .p (.int 8)] [tw n] = some (.ok (.p (.int p)), [tw (n + 1)])) (h2 : d [.p (.fz ns), .ref 0, .p (.int 98)] [tw (n + 1)] = some (.ok (.p (.int q)), [tw (n + 1 + 1)]))
    (h3 : F [.p (.fz ns), .ref 0, .p (.lst [.int 2, .int (2 + p), .int (2 + q)])] [tw (n + 1 + 1)] = some (.ok (.p x), [tw (n + 1 + 1 + 1)])) :
    sSet 4 (mCall F [mVar 0, mVar 1, mLst [mC (.int 2), mP2 addP (mC (.int 2)) (mCall d [mVar 0, mVar 1, mC (.int 8)]), mP2 addP (mC (.int 2)) (mCall d [mVar 0, mVar 1, mC (.int 98)])]]) [some (.p (.fz ns)), some (.ref 0), b, c, e] [tw n]
     = some (.nx [some (.p (.fz ns)), some (.ref 0), b, c, some (.p x)], [tw (n + 1 + 1 + 1)]) := by
  simp [h1, h2, h3]
theorem wide_s3 {F : Fn} {ns : List Int} {k k' : Nat} {x y z w : P} (h : F [.p (.fz ns), .ref 0, .p x, .p y, .p z] [tw k] = some (.ok (.p w), [tw k'])) :
    sRet (mCall F [mVar 0, mVar 1, mVar 3, mVar 4, mVar 2]) [some (.p (.fz ns)), some (.ref 0), some (.p z), some (.p x), some (.p y)] [tw k] = some (.rt (.p w), [tw k']) := by
  simp [h]
theorem wide_fin {d : Fn} {ns : List Int} {n n' : Nat} {most m : Int} {r p q : Nat} {S : P} (a2 : d [.p (.fz ns), .ref 0, .p (.int 9)] [tw n] = some (.ok (.p (.int r)), [tw (n + 1)])) (a4 : d [.p (.fz ns), .ref 0, .p (.int 8)] [tw (n + 1)] = some (.ok (.p (.int p)), [tw (n + 1 + 1)]))
  (a6 : d [.p (.fz ns), .ref 0, .p (.int 98)] [tw (n + 1 + 1)] = some (.ok (.p (.int q)), [tw (n + 1 + 1 + 1)]))
  (a8 : f_l_pick d [.p (.fz ns), .ref 0, .p (.lst [.int 2, .int (2 + p), .int (2 + q)])] [tw (n + 1 + 1 + 1)] = some (.ok (.p (.int m)), [tw (n + 1 + 1 + 1 + 1)]))
  (b4 : f_l_sheet d [.p (.fz ns), .ref 0, .p (.int ((r + 1 : Nat) : Int)), .p (.int m), .p (.int most)] [tw (n + 1 + 1 + 1 + 1)] = some (.ok (.p S), [tw n'])) :
  f_l_wide d [.p (.fz ns), .ref 0, .p (.int most)] [tw n] = some (.ok (.p S), [tw n']) := by
  refine run_p (k := 5) (env := [some (.p (.fz ns)), some (.ref 0), some (.p (.int most)), none, none]) rfl ?_ rfl rfl
  unfold b_l_wide
  rw [sSeq_nx (wide_s1 a2)]
  rw [sSeq_nx (wide_s2 a4 a6 a8)]
  exact wide_s3 b4
theorem wide_ok {d : Fn} (hd : DrawOk d) (ns : List Int) (n : Nat) (most : Int) (hn : n < 600000) (h0 : 0 ≤ most) (h1 : most ≤ 1000) :
    ∃ long m fs n', 0 < long ∧ long ≤ 9 ∧ 2 ≤ m ∧ m ≤ 99 ∧ Good long m fs ∧ (fs.length : Int) ≤ most ∧ n' ≤ n + 7000 ∧ f_l_wide d [.p (.fz ns), .ref 0, .p (.int most)] [tw n] = some (.ok (.p (shP long m fs)), [tw n']) := by
  obtain ⟨r, a1, a2⟩ := hd ns n 9 (by omega) (by omega)
  obtain ⟨p, a3, a4⟩ := hd ns (n + 1) 8 (by omega) (by omega)
  obtain ⟨q, a5, a6⟩ := hd ns (n + 1 + 1) 98 (by omega) (by omega)
  obtain ⟨x, a7, a8⟩ := pick_ok hd ns (n + 1 + 1 + 1) [.int 2, .int (2 + p), .int (2 + q)] (by simp) (by omega)
  obtain ⟨m, rfl, m1, m2⟩ : ∃ m : Int, x = .int m ∧ 2 ≤ m ∧ m ≤ 99 := by
    simp only [List.mem_cons, List.not_mem_nil, or_false] at a7
    rcases a7 with z | z | z
    · exact ⟨_, z, by omega, by omega⟩
    · exact ⟨_, z, by omega, by omega⟩
    · exact ⟨_, z, by omega, by omega⟩
  obtain ⟨fs, n', b1, b2, b3, b4⟩ := sheet_ok hd ns (n + 1 + 1 + 1 + 1) (r + 1) m most (by omega) (by omega) (by omega) (by omega) h0 h1
  refine ⟨r + 1, m, fs, n', by omega, by omega, m1, m2, b1, b2, by omega, ?_⟩
  exact wide_fin a2 a4 a6 a8 b4
end Z

end
section
namespace Z
open PySem L2
def b_is_whole : SM :=
    sRet (mAnd (mP1 (isiQ "int") (mVar 0)) (mAnd (mNot (mP1 (isiQ "bool") (mVar 0))) (mChain leP leP (mVar 1) (mVar 0) (mVar 2))))
def f_is_whole : Fn := runF 3 (b_is_whole)
def b_is_fact : SM :=
    sSeq (sIf (tOrM (tNotM (tTr (mP1 (isiQ "tuple") (mVar 0)))) (tOrM (tB (mP2 neP (mPn lenP [mVar 0]) (mC (.int 3)))) (tNotM (tTr (mCall f_is_whole [mP2 idxP (mVar 0) (mC (.int 0)), mC (.int 0), mP2 subP (mVar 1) (mC (.int 1))]))))) (sRet (mC (.bl false))) (sPass))
    (sRet (mAnd (mCall f_is_whole [mP2 idxP (mVar 0) (mC (.int 1)), mP2 addP (mP2 idxP (mVar 0) (mC (.int 0))) (mC (.int 1)), mVar 1]) (mCall f_is_whole [mP2 idxP (mVar 0) (mC (.int 2)), mC (.int 0), mP2 subP (mVar 2) (mC (.int 1))])))
def f_is_fact : Fn := runF 3 (b_is_fact)
def b_is_sheet : SM :=
    sSeq (sIf (tOrM (tNotM (tTr (mP1 (isiQ "tuple") (mVar 0)))) (tOrM (tB (mP2 neP (mPn lenP [mVar 0]) (mC (.int 3)))) (tNotM (tTr (mCall f_is_whole [mP2 idxP (mVar 0) (mC (.int 0)), mC (.int 1), mC (.int 9)]))))) (sRet (mC (.bl false))) (sPass))
    (sSeq (sAsg (.tp [.nm 1, .nm 2, .nm 3]) (mVar 0))
    (sSeq (sIf (tOrM (tNotM (tTr (mCall f_is_whole [mVar 2, mC (.int 2), mC (.int 99)]))) (tOrM (tNotM (tTr (mP1 (isiQ "tuple") (mVar 3)))) (tB (mP2 gtP (mPn lenP [mVar 3]) (mC (.int 12)))))) (sRet (mC (.bl false))) (sPass))
    (sRet (mPn allP [mLc [4] (.nm 4) (iSeq (mVar 3)) (tYesM) (mCall f_is_fact [mVar 4, mVar 1, mVar 2])]))))
def f_is_sheet : Fn := runF 5 (b_is_sheet)
def b_l_whole : SM :=
    sRet (mAnd (mP1 (isiQ "int") (mVar 0)) (mAnd (mNot (mP1 (isiQ "bool") (mVar 0))) (mChain leP leP (mVar 1) (mVar 0) (mVar 2))))
def f_l_whole : Fn := runF 3 (b_l_whole)
def b_l_is_sheet : SM :=
    sSeq (sIf (tOrM (tNotM (tTr (mP1 (isiQ "tuple") (mVar 0)))) (tOrM (tB (mP2 neP (mPn lenP [mVar 0]) (mC (.int 3)))) (tNotM (tTr (mCall f_l_whole [mP2 idxP (mVar 0) (mC (.int 0)), mC (.int 1), mC (.int 9)]))))) (sRet (mC (.bl false))) (sPass))
    (sSeq (sIf (tOrM (tNotM (tTr (mCall f_l_whole [mP2 idxP (mVar 0) (mC (.int 1)), mC (.int 2), mC (.int 99)]))) (tOrM (tNotM (tTr (mP1 (isiQ "tuple") (mP2 idxP (mVar 0) (mC (.int 2)))))) (tB (mP2 gtP (mPn lenP [mP2 idxP (mVar 0) (mC (.int 2))]) (mC (.int 12)))))) (sRet (mC (.bl false))) (sPass))
    (sSeq (sFor (.nm 1) (iSeq (mP2 idxP (mVar 0) (mC (.int 2)))) (sSeq (sIf (tOrM (tNotM (tTr (mP1 (isiQ "tuple") (mVar 1)))) (tOrM (tB (mP2 neP (mPn lenP [mVar 1]) (mC (.int 3)))) (tNotM (tTr (mCall f_l_whole [mP2 idxP (mVar 1) (mC (.int 0)), mC (.int 0), mP2 subP (mP2 idxP (mVar 0) (mC (.int 0))) (mC (.int 1))]))))) (sRet (mC (.bl false))) (sPass))
      (sIf (tOrM (tNotM (tTr (mCall f_l_whole [mP2 idxP (mVar 1) (mC (.int 1)), mP2 addP (mP2 idxP (mVar 1) (mC (.int 0))) (mC (.int 1)), mP2 idxP (mVar 0) (mC (.int 0))]))) (tNotM (tTr (mCall f_l_whole [mP2 idxP (mVar 1) (mC (.int 2)), mC (.int 0), mP2 subP (mP2 idxP (mVar 0) (mC (.int 1))) (mC (.int 1))])))) (sRet (mC (.bl false))) (sPass))) [1])
    (sRet (mC (.bl true)))))
def f_l_is_sheet : Fn := runF 2 (b_l_is_sheet)
def b_l_bent (d : Fn) (g : Fn) : SM :=
    sSeq (sIf (tOrM (tNotM (tTr (mP1 (isiQ "tuple") (mVar 2)))) (tOrM (tB (mP2 eqP (mVar 2) (mTup []))) (tB (mP2 eqP (mCall d [mVar 0, mVar 1, mC (.int 4)]) (mC (.int 0)))))) (sRet (mCall (f_l_pick d) [mVar 0, mVar 1, mVar 3])) (sPass))
    (sSeq (sSet 4 (mCall d [mVar 0, mVar 1, mPn lenP [mVar 2]]))
    (sSeq (sSet 5 (mCall d [mVar 0, mVar 1, mC (.int 8)]))
    (sSeq (sIf (tB (mP2 eqP (mVar 5) (mC (.int 0)))) (sRet (mP2 addP (mSl (mVar 2) none (some (mVar 4))) (mSl (mVar 2) (some (mP2 addP (mVar 4) (mC (.int 1)))) none))) (sPass))
    (sSeq (sIf (tB (mP2 eqP (mVar 5) (mC (.int 1)))) (sRet (mP2 addP (mP2 addP (mSl (mVar 2) none (some (mVar 4))) (mTup [mP2 idxP (mVar 2) (mVar 4)])) (mSl (mVar 2) (some (mVar 4)) none))) (sPass))
    (sSeq (sIf (tB (mP2 eqP (mVar 5) (mC (.int 2)))) (sRet (mPn listP [mVar 2])) (sPass))
    (sRet (mP2 addP (mP2 addP (mSl (mVar 2) none (some (mVar 4))) (mTup [mCall g [mVar 0, mVar 1, mP2 idxP (mVar 2) (mVar 4), mVar 3]])) (mSl (mVar 2) (some (mP2 addP (mVar 4) (mC (.int 1)))) none))))))))
def f_l_bent (d : Fn) : Nat → Fn
  | 0 => fun _ _ => none
  | n + 1 => runF 6 (b_l_bent d (f_l_bent d n))
def b_law_k01 (d : Fn) : SM :=
    sSeq (sSet 1 (mNewL []))
    (sSeq (sSet 2 (mLst [mC .non, mC (.bl true), mC (.bl false), mP1 negP (mC (.int 1)), mC (.int 0), mC (.int 1), mC (.int 2), mC (.int 8), mC (.int 9), mC (.int 10), mC (.int 98), mC (.int 99), mC (.int 100), mC (.str "1"), mC (.str ""), mTup [], mTup [mC (.int 0), mC (.int 1), mC (.int 0)]]))
    (sSeq (sSet 2 (mP2 addP (mVar 2) (mLst [mTup [mC (.int 1), mC (.int 1), mC (.int 0)], mTup [mC (.int 0), mC (.int 1), mC (.int 1)], mLst [mC (.int 0), mC (.int 1), mC (.int 0)]])))
    (sSeq (sFor (.nm 3) (iRange1 (mC (.int 12))) (sSeq (sSet 4 (mCall (f_l_wide d) [mVar 0, mVar 1, mC (.int 12)]))
      (sSeq (sAsg (.tp [.nm 5, .nm 6, .nm 7]) (mVar 4))
      (sSeq (sSet 8 (mLst [mVar 4, mPn listP [mVar 4], mSl (mVar 4) none (some (mC (.int 2))), mP2 addP (mVar 4) (mTup [mC (.int 0)]), mTup [mVar 5, mVar 6, mP2 addP (mVar 7) (mTup [mTup [mC (.int 0), mC (.int 1), mVar 6]])]]))
      (sSeq (sSet 8 (mP2 addP (mVar 8) (mLst [mTup [mVar 5, mVar 6, mPn listP [mVar 7]], mTup [mVar 5, mVar 6, mP2 mulP (mTup [mTup [mC (.int 0), mC (.int 1), mC (.int 0)]]) (mC (.int 12))]])))
      (sSeq (sSet 8 (mP2 addP (mVar 8) (mLst [mTup [mVar 5, mVar 6, mP2 mulP (mTup [mTup [mC (.int 0), mC (.int 1), mC (.int 0)]]) (mC (.int 13))], mTup [mVar 5, mVar 6, mTup [mTup [mC (.int 0), mP2 addP (mVar 5) (mC (.int 1)), mC (.int 0)]]]])))
      (sSeq (sSet 8 (mP2 addP (mVar 8) (mLst [mTup [mC (.int 0), mVar 6, mTup []], mTup [mC (.int 10), mVar 6, mTup []], mTup [mVar 5, mC (.int 1), mTup []], mTup [mVar 5, mC (.int 100), mTup []], mC .non, mC (.int 7), mTup [mVar 4], mVar 7])))
      (sSeq (sSet 8 (mP2 addP (mVar 8) (mLc [10] (.nm 10) (iRange1 (mC (.int 12))) (tYesM) (mCall (f_l_bent d 8) [mVar 0, mVar 1, mVar 4, mVar 2]))))
      (sFor (.nm 9) (iSeq (mVar 8)) (sIf (tNotM (tTr (mCall (f_l_same 8) [mCall f_is_sheet [mVar 9], mCall f_l_is_sheet [mVar 9]]))) (sRet (mC (.bl false))) (sPass)) [9])))))))) [3, 4, 5, 6, 7, 8, 9])
    (sRet (mC (.bl true))))))
def f_law_k01 (d : Fn) : Fn := runF 11 (b_law_k01 d)
end Z

end
section

namespace Z
open PySem L2
def b_l_draw_2 : SM :=
    sSeq (sExpr (mMeth appV (mVar 1) (mC (.int 0))))
    (sSeq (sSet 3 (mPn lenP [mVar 1]))
    (sSeq (sSet 4 (mC (.int 0)))
    (sSeq (sIf (tTr (mVar 0)) (sSet 4 (mP2 idxP (mVar 0) (mP2 modP (mVar 3) (mPn lenP [mVar 0])))) (sPass))
    (sSeq (sSet 5 (mP2 modP (mP2 addP (mVar 4) (mP2 mulP (mC (.int 104729)) (mVar 3))) (mC (.int 4294967291))))
    (sSeq (sSet 5 (mP2 modP (mP2 mulP (mP2 modP (mP2 mulP (mVar 5) (mVar 5)) (mC (.int 4294967279))) (mC (.int 48271))) (mC (.int 4294967291))))
    (sSeq (sSet 6 (mP2 modP (mP2 mulP (mP2 modP (mP2 mulP (mVar 5) (mVar 5)) (mC (.int 4294967279))) (mC (.int 69621))) (mC (.int 4294967291))))
    (sRet (mP2 modP (mP2 addP (mP2 mulP (mP2 fdivP (mVar 5) (mC (.int 64))) (mC (.int 67108864))) (mP2 fdivP (mVar 6) (mC (.int 64)))) (mVar 2)))))))))
def f_l_draw_2 : Fn := runF 7 (b_l_draw_2)
def b_l_row_2 (d : Fn) : SM :=
    sRet (mPn tupleP [mLc [4] (.nm 4) (iRange1 (mVar 2)) (tYesM) (mCall d [mVar 0, mVar 1, mVar 3])])
def f_l_row_2 (d : Fn) : Fn := runF 5 (b_l_row_2 d)
def b_l_facts_2 (d : Fn) : SM :=
    sSeq (sSet 5 (mTup []))
    (sSeq (sFor (.nm 6) (iRange1 (mCall d [mVar 0, mVar 1, mP2 addP (mVar 4) (mC (.int 1))])) (sSeq (sSet 7 (mCall d [mVar 0, mVar 1, mPn lenP [mVar 2]]))
      (sSeq (sSet 8 (mCall (f_l_pick d) [mVar 0, mVar 1, mLst [mP2 subP (mPn lenP [mVar 2]) (mVar 7), mPn minP [mC (.int 2), mP2 subP (mPn lenP [mVar 2]) (mVar 7)]]]))
      (sSeq (sSet 9 (mP2 addP (mP2 addP (mVar 7) (mC (.int 1))) (mCall d [mVar 0, mVar 1, mVar 8])))
      (sSeq (sSet 10 (mPn sumP [mSl (mVar 2) (some (mVar 7)) (some (mVar 9))]))
      (sSet 5 (mP2 addP (mVar 5) (mTup [mTup [mVar 7, mVar 9, mP2 subP (mVar 10) (mP2 mulP (mP2 fdivP (mVar 10) (mVar 3)) (mVar 3))]]))))))) [6, 7, 8, 9, 10])
    (sRet (mVar 5)))
def f_l_facts_2 (d : Fn) : Fn := runF 11 (b_l_facts_2 d)
def b_l_sheet_2 (d : Fn) : SM :=
    sSeq (sPar2 3 4 (mP2 addP (mC (.int 1)) (mCall d [mVar 0, mVar 1, mC (.int 9)])) (mP2 addP (mC (.int 2)) (mCall d [mVar 0, mVar 1, mCall (f_l_pick d) [mVar 0, mVar 1, mLst [mC (.int 3), mC (.int 98)]]])))
    (sSeq (sSet 5 (mCall (f_l_row_2 d) [mVar 0, mVar 1, mVar 3, mVar 4]))
    (sRet (mTup [mTup [mVar 3, mVar 4, mCall (f_l_facts_2 d) [mVar 0, mVar 1, mVar 5, mVar 4, mVar 2]], mVar 5])))
def f_l_sheet_2 (d : Fn) : Fn := runF 6 (b_l_sheet_2 d)
def b_l_lied (d : Fn) : SM :=
    sSeq (sAsg (.tp [.nm 3, .nm 4, .nm 5]) (mVar 2))
    (sSeq (sIf (tB (mP2 eqP (mVar 5) (mTup []))) (sRet (mVar 2)) (sPass))
    (sSeq (sSet 6 (mCall d [mVar 0, mVar 1, mPn lenP [mVar 5]]))
    (sSeq (sAsg (.tp [.nm 7, .nm 8, .nm 9]) (mP2 idxP (mVar 5) (mVar 6)))
    (sSeq (sSet 10 (mP2 addP (mP2 addP (mVar 9) (mC (.int 1))) (mCall d [mVar 0, mVar 1, mP2 subP (mVar 4) (mC (.int 1))])))
    (sRet (mTup [mVar 3, mVar 4, mP2 addP (mP2 addP (mSl (mVar 5) none (some (mVar 6))) (mTup [mTup [mVar 7, mVar 8, mP2 subP (mVar 10) (mP2 mulP (mP2 fdivP (mVar 10) (mVar 4)) (mVar 4))]])) (mSl (mVar 5) (some (mP2 addP (mVar 6) (mC (.int 1)))) none)]))))))
def f_l_lied (d : Fn) : Fn := runF 11 (b_l_lied d)
def b_l_stretches : SM :=
    sSeq (sSet 1 (mNewL []))
    (sSeq (sFor (.nm 2) (iRange1 (mVar 0)) (sExpr (mMeth extV (mVar 1) (mLc [3] (.nm 3) (iRange2 (mP2 addP (mVar 2) (mC (.int 1))) (mP2 addP (mVar 0) (mC (.int 1)))) (tYesM) (mTup [mVar 2, mVar 3])))) [2])
    (sRet (mMv 1)))
def f_l_stretches : Fn := runF 4 (b_l_stretches)
def b_l_rest : SM :=
    sRet (mP2 subP (mVar 0) (mP2 mulP (mP2 fdivP (mVar 0) (mVar 1)) (mVar 1)))
def f_l_rest : Fn := runF 2 (b_l_rest)
def b_l_row_holds : SM :=
    sSeq (sAsg (.tp [.nm 2, .nm 3, .nm 4]) (mVar 0))
    (sSeq (sFor (.tp [.nm 5, .nm 6]) (iSeq (mCall f_l_stretches [mVar 2])) (sSeq (sSet 7 (mCall f_rest_of [mVar 0, mVar 1, mVar 5, mVar 6]))
      (sSeq (sIf (tOrM (tNotM (tB (mChain leP ltP (mC (.int 0)) (mVar 7) (mVar 3)))) (tB (mP2 neP (mVar 7) (mCall f_l_rest [mPn sumP [mSl (mVar 1) (some (mVar 5)) (some (mVar 6))], mVar 3])))) (sRet (mC (.bl false))) (sPass))
      (sSeq (sSet 8 (mP2 fdivP (mP2 addP (mVar 5) (mVar 6)) (mC (.int 2))))
      (sIf (tB (mP2 ltP (mVar 5) (mVar 8))) (sSeq (sSet 9 (mP2 addP (mCall f_rest_of [mVar 0, mVar 1, mVar 5, mVar 8]) (mCall f_rest_of [mVar 0, mVar 1, mVar 8, mVar 6])))
        (sIf (tB (mP2 neP (mVar 7) (mCall f_l_rest [mVar 9, mVar 3]))) (sRet (mC (.bl false))) (sPass))) (sPass))))) [5, 6, 7, 8, 9])
    (sSeq (sSet 10 (mLc [13] (.nm 13) (iSeq (mVar 4)) (tYesM) (mCall f_fits [mTup [mVar 2, mVar 3, mTup [mVar 13]], mVar 1])))
    (sSeq (sIf (tOrM (tB (mP2 neP (mCall f_fits [mVar 0, mVar 1]) (mPn allP [mVar 10]))) (tB (mP2 neP (mCall f_unfit [mVar 0, mVar 1]) (mIf (tB (mP2 inP (mC (.bl false)) (mVar 10))) (mIdxOf (mVar 10) (mC (.bl false))) (mC .non))))) (sRet (mC (.bl false))) (sPass))
    (sSeq (sSet 11 (mCall f_unfit [mVar 0, mVar 1]))
    (sSeq (sIf (tB (mP2 isP (mVar 11) (mC .non))) (sRet (mC (.bl true))) (sPass))
    (sSeq (sPar2 12 7 (mTup [mVar 2, mVar 3, mSl (mVar 4) none (some (mVar 11))]) (mTup [mVar 2, mVar 3, mSl (mVar 4) none (some (mP2 addP (mVar 11) (mC (.int 1))))]))
    (sRet (mAnd (mP2 isP (mCall f_unfit [mVar 12, mVar 1]) (mC .non)) (mNot (mCall f_fits [mVar 7, mVar 1]))))))))))
def f_l_row_holds : Fn := runF 14 (b_l_row_holds)
def b_law_k25 (d : Fn) : SM :=
    sSeq (sSet 1 (mNewL []))
    (sSeq (sFor (.nm 2) (iRange1 (mC (.int 5))) (sSeq (sAsg (.tp [.nm 3, .nm 4]) (mCall (f_l_sheet_2 d) [mVar 0, mVar 1, mC (.int 12)]))
      (sSeq (sAsg (.tp [.nm 5, .nm 6, .nm 7]) (mVar 3))
      (sSeq (sIf (tOrM (tNotM (tTr (mCall f_is_sheet [mVar 3]))) (tOrM (tNotM (tTr (mCall f_fits [mVar 3, mVar 4]))) (tB (mP2 isNotP (mCall f_unfit [mVar 3, mVar 4]) (mC .non))))) (sRet (mC (.bl false))) (sPass))
      (sSeq (sIf (tNotM (tTr (mCall f_l_row_holds [mVar 3, mVar 4]))) (sRet (mC (.bl false))) (sPass))
      (sSeq (sSet 8 (mCall (f_l_lied d) [mVar 0, mVar 1, mVar 3]))
      (sSeq (sIf (tTr (mVar 7)) (sSeq (sSet 9 (mCall f_unfit [mVar 8, mVar 4]))
        (sIf (tOrM (tTr (mCall f_fits [mVar 8, mVar 4])) (tB (mP2 eqP (mP2 idxP (mP2 idxP (mVar 8) (mC (.int 2))) (mVar 9)) (mP2 idxP (mVar 7) (mVar 9))))) (sRet (mC (.bl false))) (sPass))) (sPass))
      (sSeq (sIf (tOrM (tNotM (tTr (mCall f_l_row_holds [mVar 8, mVar 4]))) (tNotM (tTr (mCall f_l_row_holds [mVar 3, mCall (f_l_row_2 d) [mVar 0, mVar 1, mVar 5, mVar 6]])))) (sRet (mC (.bl false))) (sPass))
      (sSeq (sSet 10 (mCall d [mVar 0, mVar 1, mVar 5]))
      (sSeq (sSet 11 (mP2 addP (mP2 addP (mSl (mVar 4) none (some (mVar 10))) (mTup [mCall f_l_rest [mP2 addP (mP2 idxP (mVar 4) (mVar 10)) (mC (.int 1)), mVar 6]])) (mSl (mVar 4) (some (mP2 addP (mVar 10) (mC (.int 1)))) none)))
      (sSeq (sSet 12 (mLc [9, 13, 14, 15] (.tp [.nm 9, .tp [.nm 13, .nm 14, .nm 15]]) (iEnumM (mVar 7)) (tB (mChain leP ltP (mVar 13) (mVar 10) (mVar 14))) (mVar 9)))
      (sSeq (sIf (tB (mP2 neP (mCall f_unfit [mVar 3, mVar 11]) (mIf (tTr (mVar 12)) (mP2 idxP (mVar 12) (mC (.int 0))) (mC .non)))) (sRet (mC (.bl false))) (sPass))
      (sIf (tB (mP2 neP (mCall f_rest_of [mVar 3, mVar 11, mC (.int 0), mVar 5]) (mCall f_l_rest [mP2 addP (mCall f_rest_of [mVar 3, mVar 4, mC (.int 0), mVar 5]) (mC (.int 1)), mVar 6]))) (sRet (mC (.bl false))) (sPass))))))))))))) [2, 3, 4, 5, 6, 7, 8, 10, 11, 12])
    (sRet (mC (.bl true))))
def f_law_k25 (d : Fn) : Fn := runF 16 (b_law_k25 d)
end Z

end
section
namespace Z
open PySem L2
/-! ### the second way to draw -/
theorem draw2_t2 (a b : Option Val) (m k c x : Int) (S : List O) (hx : 0 ≤ x ∧ x < 4294967291) : ∃ y, (sSet 5 (mP2 modP (mP2 mulP (mP2 modP (mP2 mulP (mVar 5) (mVar 5)) (mC (.int 4294967279))) (mC (.int 48271))) (mC (.int 4294967291)))) [a, b, some (.p (.int m)), some (.p (.int k)), some (.p (.int c)), some (.p (.int x)), none] S
    = some (.nx [a, b, some (.p (.int m)), some (.p (.int k)), some (.p (.int c)), some (.p (.int y)), none], S) ∧ 0 ≤ y ∧ y < 4294967291 := by
  refine ⟨x * x % 4294967279 * 48271 % 4294967291, ?_, by omega, by omega⟩
  generalize hz : x * x % 4294967279 = z
  simp [mul_ok x x (.inl (by omega)), hz, mul_ok z 48271 (.inr (by omega))]
theorem draw2_t3 (a b : Option Val) (m k c x : Int) (S : List O) (hx : 0 ≤ x ∧ x < 4294967291) : ∃ y, (sSet 6 (mP2 modP (mP2 mulP (mP2 modP (mP2 mulP (mVar 5) (mVar 5)) (mC (.int 4294967279))) (mC (.int 69621))) (mC (.int 4294967291)))) [a, b, some (.p (.int m)), some (.p (.int k)), some (.p (.int c)), some (.p (.int x)), none] S
    = some (.nx [a, b, some (.p (.int m)), some (.p (.int k)), some (.p (.int c)), some (.p (.int x)), some (.p (.int y))], S) := by
  refine ⟨x * x % 4294967279 * 69621 % 4294967291, ?_⟩
  generalize hz : x * x % 4294967279 = z
  simp [mul_ok x x (.inl (by omega)), hz, mul_ok z 69621 (.inr (by omega))]
theorem draw2_t1 (a b : Option Val) (m k c : Int) (S : List O) : (sSet 5 (mP2 modP (mP2 addP (mVar 4) (mP2 mulP (mC (.int 104729)) (mVar 3))) (mC (.int 4294967291)))) [a, b, some (.p (.int m)), some (.p (.int k)), some (.p (.int c)), none, none] S
    = some (.nx [a, b, some (.p (.int m)), some (.p (.int k)), some (.p (.int c)), some (.p (.int ((c + 104729 * k) % 4294967291))), none], S) := by
  simp [mul_k1]
theorem draw2_t4 (a b : Option Val) (m k c x y g : Int) (S : List O) (hm : 0 < m) (hg : 0 < g ∧ g < 18446744073709551616) : (sRet (mP2 modP (mP2 addP (mP2 mulP (mP2 fdivP (mVar 5) (mC (.int 64))) (mC (.int g))) (mP2 fdivP (mVar 6) (mC (.int 64)))) (mVar 2))) [a, b, some (.p (.int m)), some (.p (.int k)), some (.p (.int c)), some (.p (.int x)), some (.p (.int y))] S
    = some (.rt (.p (.int ((x / 64 * g + y / 64) % m))), S) := by
  have h := mul_ok (x / 64) g (.inr (by omega))
  clear hg
  simp [hm, h]
def t_l_draw2 : SM :=
    (sSeq (sSet 5 (mP2 modP (mP2 addP (mVar 4) (mP2 mulP (mC (.int 104729)) (mVar 3))) (mC (.int 4294967291))))
    (sSeq (sSet 5 (mP2 modP (mP2 mulP (mP2 modP (mP2 mulP (mVar 5) (mVar 5)) (mC (.int 4294967279))) (mC (.int 48271))) (mC (.int 4294967291))))
    (sSeq (sSet 6 (mP2 modP (mP2 mulP (mP2 modP (mP2 mulP (mVar 5) (mVar 5)) (mC (.int 4294967279))) (mC (.int 69621))) (mC (.int 4294967291))))
    (sRet (mP2 modP (mP2 addP (mP2 mulP (mP2 fdivP (mVar 5) (mC (.int 64))) (mC (.int 67108864))) (mP2 fdivP (mVar 6) (mC (.int 64)))) (mVar 2))))))
theorem mod_nat (c m : Int) (hm : 0 < m) : ∃ r : Nat, (r : Int) < m ∧ c % m = r := by
  obtain ⟨h1, h2⟩ := emod_r c m hm
  obtain ⟨j, hj⟩ := Int.eq_ofNat_of_zero_le h1
  exact ⟨j, by omega, hj⟩
theorem draw2_tail (a b : Option Val) (m k c : Int) (S : List O) (hm : 0 < m) : ∃ r : Nat, (r : Int) < m ∧ t_l_draw2 [a, b, some (.p (.int m)), some (.p (.int k)), some (.p (.int c)), none, none] S = some (.rt (.p (.int r)), S) := by
  obtain ⟨x, h1, hx⟩ := draw2_t2 a b m k c _ S (emod_r (c + 104729 * k) 4294967291 (by omega))
  obtain ⟨y, h2⟩ := draw2_t3 a b m k c x S hx
  obtain ⟨r, h3, h4⟩ := mod_nat (x / 64 * 67108864 + y / 64) m hm
  refine ⟨r, h3, ?_⟩
  unfold t_l_draw2
  rw [sSeq_nx (draw2_t1 a b m k c S), sSeq_nx h1, sSeq_nx h2, draw2_t4 a b m k c x y 67108864 S hm (by omega), h4]
theorem h_draw2_nil (T : SM) (n : Nat) (m : Int) (hz : n < sizeLine) : h_l_draw T [some (.p (.fz [])), some (.ref 0), some (.p (.int m)), none, none, none, none] [tw n] = T [some (.p (.fz [])), some (.ref 0), some (.p (.int m)), some (.p (.int ((n + 1 : Nat) : Int))), some (.p (.int 0)), none, none] [tw (n + 1)] := by
  simp [h_l_draw, tw, hz, List.replicate_succ']
theorem h_draw2_cons (T : SM) (n : Nat) (m : Int) (x : Int) (xs : List Int) (hz : n < sizeLine) : ∃ c, h_l_draw T [some (.p (.fz (x :: xs))), some (.ref 0), some (.p (.int m)), none, none, none, none] [tw n] = T [some (.p (.fz (x :: xs))), some (.ref 0), some (.p (.int m)), some (.p (.int ((n + 1 : Nat) : Int))), some (.p (.int c)), none, none] [tw (n + 1)] := by
  obtain ⟨c, hc⟩ := atI_mod x xs ((n + 1 : Nat) : Int)
  simp only [List.length_cons, Int.natCast_add, Int.natCast_one] at hc
  refine ⟨c, ?_⟩
  simp [h_l_draw, tw, hz, List.replicate_succ', hc]
theorem draw2_ok : DrawOk f_l_draw_2 := by
  intro ns n m hm hn
  have hz : n < sizeLine := sz' (by omega)
  have key : ∃ r : Nat, (r : Int) < m ∧ h_l_draw t_l_draw2 [some (.p (.fz ns)), some (.ref 0), some (.p (.int m)), none, none, none, none] [tw n] = some (.rt (.p (.int r)), [tw (n + 1)]) := by
    cases ns with
    | nil => rw [h_draw2_nil _ _ _ hz]; exact draw2_tail _ _ m _ _ _ hm
    | cons x xs =>
      obtain ⟨c, hc⟩ := h_draw2_cons t_l_draw2 n m x xs hz
      rw [hc]; exact draw2_tail _ _ m _ _ _ hm
  obtain ⟨r, h1, h2⟩ := key
  have e : f_l_draw_2 = runF 7 (h_l_draw t_l_draw2) := rfl
  rw [e]
  exact ⟨r, h1, run_of (k := 7) (vs := [.p (.fz ns), .ref 0, .p (.int m)]) (S := [tw n]) (S1 := [tw (n + 1)]) (b := h_l_draw t_l_draw2) h2 rfl⟩
end Z

end
section
namespace Z
open PySem L2
/-! ### comprehensions in the machine -/
def lcE1 (c : TM) (e : EM) (S : List O) (o : Option Env) : Option (Option P) := o.bind fun en => match c en S with
  | some (.ok true, S1) => match e en S1 with
    | some (.ok (.p y), _) => some (some y)
    | _ => none
  | some (.ok false, _) => some none
  | _ => none
def lcE2 (e : EM) (en : Env) (o : Out Bool) : Option (Option P) := match o with
  | some (.ok true, S1) => match e en S1 with
    | some (.ok (.p y), _) => some (some y)
    | _ => none
  | some (.ok false, _) => some none
  | _ => none
def lcE3 (o : Out Val) : Option (Option P) := match o with
  | some (.ok (.p y), _) => some (some y)
  | _ => none
theorem lcE1_s {c : TM} {e : EM} {S : List O} {en : Env} : lcE1 c e S (some en) = lcE2 e en (c en S) := id rfl
theorem lcE2_t {e : EM} {S : List O} {en : Env} : lcE2 e en (some (.ok true, S)) = lcE3 (e en S) := id rfl
theorem lcE2_f {e : EM} {S : List O} {en : Env} : lcE2 e en (some (.ok false, S)) = some none := id rfl
theorem lcE2_c {e : EM} {S : List O} {en : Env} {b : Bool} : lcE2 e en (some (.ok b, S)) = if b = true then lcE3 (e en S) else some none := by cases b <;> rfl
theorem lcE3_s {S : List O} {x : P} : lcE3 (some (.ok (.p x), S)) = some (some x) := id rfl
/-- tests and elements that change nothing -/
def Still (c : TM) (e : EM) (S : List O) : Prop := ∀ en, (∀ b S1, c en S = some (.ok b, S1) → S1 = S) ∧ ∀ y S1, e en S = some (.ok (.p y), S1) → S1 = S
theorem lc_gen {α : Type} {t : Tg} {c : TM} {e : EM} {env : Env} {S : List O} (f : α → P) (g : α → Option P) : ∀ (ys : List α) (acc : List P), (∀ y ∈ ys, ∃ en, asg t (f y) env = some en ∧ ((c en S = some (.ok false, S) ∧ g y = none) ∨ (c en S = some (.ok true, S) ∧ ∃ z, e en S = some (.ok (.p z), S) ∧ g y = some z))) → acc.length + ys.length ≤ 1000000 →
    lcL t c e env (ys.map f) acc S = some (.ok (.p (.lst (acc ++ ys.filterMap g))), S)
  | [], acc, _, _ => by simp [lcL]
  | y :: ys, acc, h, hl => by
    obtain ⟨en, h1, h2⟩ := h y (by simp)
    rw [List.length_cons] at hl
    rw [List.map_cons]
    unfold lcL
    rw [h1]
    rcases h2 with ⟨h3, h4⟩ | ⟨h3, z, h4, h5⟩
    · simp only [Option.bind_some, h3]
      rw [lc_gen f g ys acc (fun y hy => h y (by simp [hy])) (by omega), List.filterMap_cons, h4]
    · simp only [Option.bind_some, h3, h4]
      rw [if_pos (sz' (by omega)), lc_gen f g ys (acc ++ [z]) (fun y hy => h y (by simp [hy])) (by simp; omega), List.filterMap_cons, h5]
      simp
def fLm (e : EM) (S : List O) (o : Option Env) (x : P) : Prop := match o with
  | some en => e en S = some (.ok (.p x), S)
  | none => False
theorem fLm_s {e : EM} {S : List O} {en : Env} {x : P} : fLm e S (some en) x = (e en S = some (.ok (.p x), S)) := id rfl
def fLt (c : TM) (e : EM) (S : List O) (o : Option Env) (b : Bool) (x : P) : Prop := match o with
  | some en => c en S = some (.ok b, S) ∧ (b = true → e en S = some (.ok (.p x), S))
  | none => False
theorem fLt_s {c : TM} {e : EM} {S : List O} {en : Env} {b : Bool} {x : P} : fLt c e S (some en) b x = (c en S = some (.ok b, S) ∧ (b = true → e en S = some (.ok (.p x), S))) := id rfl
/-- [e for x in ys] -/
theorem lc_m {α : Type} {t : Tg} {e : EM} {env : Env} {S : List O} (ys : List α) (f : α → P) (g : α → P) (h : ∀ y ∈ ys, fLm e S (asg t (f y) env) (g y)) (hl : ys.length ≤ 1000000) :
    lcL t tYesM e env (ys.map f) [] S = some (.ok (.p (.lst (ys.map g))), S) := by
  rw [lc_gen f (fun y => some (g y)) ys [] (fun y hy => ?_) (by simpa using hl)]
  · simp
  · have := h y hy
    cases ha : asg t (f y) env with
    | none => rw [ha] at this; exact this.elim
    | some en => rw [ha] at this; exact ⟨en, rfl, .inr ⟨rfl, g y, this, rfl⟩⟩
/-- [e for x in ys if c] -/
theorem lc_f {α : Type} {t : Tg} {c : TM} {e : EM} {env : Env} {S : List O} (ys : List α) (f : α → P) (q : α → Bool) (g : α → P) (h : ∀ y ∈ ys, fLt c e S (asg t (f y) env) (q y) (g y)) (hl : ys.length ≤ 1000000) :
    lcL t c e env (ys.map f) [] S = some (.ok (.p (.lst ((ys.filter q).map g))), S) := by
  rw [lc_gen f (fun y => if q y = true then some (g y) else none) ys [] (fun y hy => ?_) (by simpa using hl)]
  · rw [List.nil_append]
    congr 6
    clear h hl
    induction ys with
    | nil => rfl
    | cons y ys ih => by_cases hq : q y = true <;> simp [List.filterMap_cons, List.filter_cons, hq, ih]
  · have := h y hy
    cases ha : asg t (f y) env with
    | none => rw [ha] at this; exact this.elim
    | some en =>
      rw [ha] at this
      refine ⟨en, rfl, ?_⟩
      cases hq : q y with
      | true => rw [fLt_s, hq] at this; exact .inr ⟨this.1, g y, this.2 rfl, if_pos rfl⟩
      | false => rw [fLt_s, hq] at this; exact .inl ⟨this.1, if_neg (by simp)⟩
theorem lcM {α : Type} {t : Tg} {e : EM} {env : Env} {S : List O} {ys : List α} {f : α → P} {L : Out Val} (hL : lcL t tYesM e env (ys.map f) [] S = L) (g : α → P) (h : ∀ y ∈ ys, fLm e S (asg t (f y) env) (g y)) (hl : ys.length ≤ 1000000) : L = some (.ok (.p (.lst (ys.map g))), S) := hL ▸ lc_m ys f g h hl
theorem lcF {α : Type} {t : Tg} {c : TM} {e : EM} {env : Env} {S : List O} {ys : List α} {f : α → P} {L : Out Val} (hL : lcL t c e env (ys.map f) [] S = L) (q : α → Bool) (g : α → P) (h : ∀ y ∈ ys, fLt c e S (asg t (f y) env) (q y) (g y)) (hl : ys.length ≤ 1000000) : L = some (.ok (.p (.lst ((ys.filter q).map g))), S) := hL ▸ lc_f ys f q g h hl
/-- elements that draw -/
theorem lcD {α σ : Type} {t : Tg} {e : EM} {env : Env} {S : List O} {ys : List α} {f : α → P} {L : Out Val} (hL : lcL t tYesM e env (ys.map f) [] S = L) (T : σ → List O) (J : Nat → List P → σ → Prop) (s0 : σ) (hS : S = T s0) (h0 : J 0 [] s0) (hl : ys.length ≤ 1000000)
    (hs : ∀ i y acc s, ys[i]? = some y → J i acc s → ∃ en z s', asg t (f y) env = some en ∧ e en (T s) = some (.ok (.p z), T s') ∧ J (i + 1) (acc ++ [z]) s') : ∃ acc s, L = some (.ok (.p (.lst acc)), T s) ∧ J ys.length acc s := by
  obtain ⟨acc', S', h1, s', h2, h3⟩ := lcL_inv (t := t) (e := e) (env := env) (fun i acc S => ∃ s, S = T s ∧ J i acc s) (ys.map f) 0 [] S ⟨s0, hS, h0⟩ (by simpa using sz hl) (by
    rintro i x acc S1 hx ⟨s, rfl, hj⟩
    rw [List.getElem?_map] at hx
    obtain ⟨y, hy, rfl⟩ := Option.map_eq_some_iff.mp hx
    rw [Nat.zero_add] at hj ⊢
    obtain ⟨en, z, s', a1, a2, a3⟩ := hs i y acc s hy hj
    exact ⟨en, z, T s', a1, a2, s', rfl, a3⟩)
  rw [← hL, h1, h2]
  rw [List.length_map, Nat.zero_add] at h3
  exact ⟨acc', s', rfl, h3⟩
/-! ### operations, with what they need -/
theorem o_mod {a b : Int} (h : 0 < b) : modP (.int a) (.int b) = some (.int (a % b)) := if_pos h
theorem o_fdiv {a b : Int} (h : 0 < b) (h2 : b < 1073741824) : fdivP (.int a) (.int b) = some (.int (a / b)) := if_pos ⟨h, h2⟩
theorem o_mulR {a b : Int} (h : -18446744073709551616 < b) (h2 : b < 18446744073709551616) : mulP (.int a) (.int b) = some (.int (a * b)) := mul_ok _ _ (.inr ⟨h, h2⟩)
theorem o_mulL {a b : Int} (h : -18446744073709551616 < a) (h2 : a < 18446744073709551616) : mulP (.int a) (.int b) = some (.int (a * b)) := mul_ok _ _ (.inl ⟨h, h2⟩)
theorem o_addT {xs ys : List P} (h : xs.length + ys.length ≤ 1000000) : addP (.tup xs) (.tup ys) = some (.tup (xs ++ ys)) := if_pos (sz h)
theorem o_addL {xs ys : List P} (h : xs.length + ys.length ≤ 1000000) : addP (.lst xs) (.lst ys) = some (.lst (xs ++ ys)) := if_pos (sz h)
theorem o_sumT {xs : List Int} : sumP [.tup (xs.map P.int)] = some (.int xs.sum) := by simp
theorem o_sumL {xs : List Int} : sumP [.lst (xs.map P.int)] = some (.int xs.sum) := by simp
theorem o_app {xs : List P} {x : P} {S : List O} (h : xs.length < 1000000) : appV 0 (.p x) (.pl xs :: S) = some (.ok (.p .non), .pl (xs ++ [x]) :: S) := app_0 (sz' h)
theorem o_ext {xs ys : List P} {S : List O} (h : xs.length + ys.length ≤ 1000000) : extV 0 (.p (.lst ys)) (.pl xs :: S) = some (.ok (.p .non), .pl (xs ++ ys) :: S) := ext_0 (sz h)
theorem cut_map {α β : Type} (f : α → β) (xs : List α) (a b : Option Int) : cutP (xs.map f) a b = (cutP xs a b).map f := by
  unfold cutP
  rw [List.length_map, List.map_take, List.map_drop]
theorem cut_ij {α : Type} {xs : List α} {i j : Int} (h : 0 ≤ i) (h2 : 0 ≤ j) : cutP xs (some i) (some j) = (xs.drop i.toNat).take (j.toNat - i.toNat) := by
  have := cut_nat xs i.toNat j.toNat
  rwa [Int.toNat_of_nonneg h, Int.toNat_of_nonneg h2] at this
theorem cut_0j {α : Type} {xs : List α} {j : Int} (h2 : 0 ≤ j) : cutP xs none (some j) = xs.take j.toNat := by
  have := cut_to xs j.toNat
  rwa [Int.toNat_of_nonneg h2] at this
theorem cut_i {α : Type} {xs : List α} {i : Int} (h2 : 0 ≤ i) : cutP xs (some i) none = xs.drop i.toNat := by
  have := cut_from xs i.toNat
  rwa [Int.toNat_of_nonneg h2] at this
theorem atI_map {α β : Type} (f : α → β) (xs : List α) (i : Int) : atI (xs.map f) i = (atI xs i).map f := by
  unfold atI
  rw [List.length_map]
  cases ixN xs.length i <;> simp
theorem atI_i {α : Type} {xs : List α} {i : Int} (h : 0 ≤ i) : atI xs i = xs[i.toNat]? := by
  have := atI_map (fun x : α => x) xs i
  obtain ⟨n, rfl⟩ := Int.eq_ofNat_of_zero_le h
  rw [Int.toNat_natCast]
  cases hn : xs[n]? with
  | some x => exact atI_nat hn
  | none =>
    have := List.getElem?_eq_none_iff.mp hn
    unfold atI
    cases hi : ixN xs.length (n : Int) with
    | none => rfl
    | some j =>
      rw [Option.bind_some]
      unfold ixN at hi
      rw [if_pos h, if_neg (by omega)] at hi
      cases hi
theorem all_b {α : Type} (p : α → Bool) (xs : List α) : allP [.lst (xs.map fun x => .bl (p x))] = some (.bl (xs.all p)) := by
  have : (xs.map fun x => P.bl (p x)) = (xs.map p).map P.bl := by rw [List.map_map]; rfl
  rw [this, allP_l, bolsOf_bl, Option.bind_some, List.all_map]
  rfl
theorem any_b {α : Type} (p : α → Bool) (xs : List α) : anyP [.lst (xs.map fun x => .bl (p x))] = some (.bl (xs.any p)) := by
  have : (xs.map fun x => P.bl (p x)) = (xs.map p).map P.bl := by rw [List.map_map]; rfl
  rw [this, anyP_l, bolsOf_bl, Option.bind_some, List.any_map]
  rfl
theorem rest_by (v m : Int) : v - v / m * m = v % m := by rw [Int.emod_def, Int.mul_comm]
/-! isinstance -/
theorem is_t {xs : List P} : isiQ "tuple" (.tup xs) = some (.bl true) := by simp [isiQ, isiT]
theorem is_tl {xs : List P} : isiQ "tuple" (.lst xs) = some (.bl false) := by simp [isiQ, isiT]
theorem is_ti {i : Int} : isiQ "tuple" (.int i) = some (.bl false) := by simp [isiQ, isiT]
theorem is_tb {i : Bool} : isiQ "tuple" (.bl i) = some (.bl false) := by simp [isiQ, isiT]
theorem is_tn : isiQ "tuple" .non = some (.bl false) := by simp [isiQ, isiT]
theorem is_ts {x : Str} : isiQ "tuple" (.str x) = some (.bl false) := by simp [isiQ, isiT]
theorem is_i {i : Int} : isiQ "int" (.int i) = some (.bl true) := by simp [isiQ, isiT]
theorem is_ib {i : Bool} : isiQ "int" (.bl i) = some (.bl true) := by simp [isiQ, isiT]
theorem is_it {xs : List P} : isiQ "int" (.tup xs) = some (.bl false) := by simp [isiQ, isiT]
theorem is_il {xs : List P} : isiQ "int" (.lst xs) = some (.bl false) := by simp [isiQ, isiT]
theorem is_in : isiQ "int" .non = some (.bl false) := by simp [isiQ, isiT]
theorem is_is {x : Str} : isiQ "int" (.str x) = some (.bl false) := by simp [isiQ, isiT]
theorem is_b {i : Bool} : isiQ "bool" (.bl i) = some (.bl true) := by simp [isiQ, isiT]
theorem is_bi {i : Int} : isiQ "bool" (.int i) = some (.bl false) := by simp [isiQ, isiT]
theorem is_bt {xs : List P} : isiQ "bool" (.tup xs) = some (.bl false) := by simp [isiQ, isiT]
theorem is_bl {xs : List P} : isiQ "bool" (.lst xs) = some (.bl false) := by simp [isiQ, isiT]
theorem is_bn : isiQ "bool" .non = some (.bl false) := by simp [isiQ, isiT]
theorem is_bs {x : Str} : isiQ "bool" (.str x) = some (.bl false) := by simp [isiQ, isiT]
/-! draws -/
theorem DrawOk.i {d : Fn} (hd : DrawOk d) (ns : List Int) (n : Nat) (m : Int) (h : 0 < m) (hn : n < 900000) : ∃ r : Int, 0 ≤ r ∧ r < m ∧ d [.p (.fz ns), .ref 0, .p (.int m)] [tw n] = some (.ok (.p (.int r)), [tw (n + 1)]) := by
  obtain ⟨r, h1, h2⟩ := hd ns n m h hn
  exact ⟨r, by omega, h1, h2⟩
theorem cvt {f : Fn} {ns : List Int} {n n' : Nat} {S : List O} {x : P} (us : List P) (h : f (.p (.fz ns) :: .ref 0 :: us.map Val.p) [tw n] = some (.ok (.p x), [tw n'])) : callV f (.p (.fz ns) :: .ref 0 :: us.map Val.p) (tw n :: S) = some (.ok (.p x), tw n' :: S) := by
  simp only [callV, refsOf, ps_refs, renum, ps_renum, nodupB, List.contains_nil, Bool.not_false, Bool.and_self, if_true, gets, List.getElem?_cons_zero, Option.bind_some, tw_closed, h, puts, List.set_cons_zero]
theorem cvt0 {f : Fn} {ns : List Int} {n n' : Nat} {x : P} (h : f [.p (.fz ns), .ref 0] [tw n] = some (.ok (.p x), [tw n'])) {S : List O} : callV f [.p (.fz ns), .ref 0] (tw n :: S) = some (.ok (.p x), tw n' :: S) := cvt [] h
theorem cvt1 {f : Fn} {ns : List Int} {n n' : Nat} {x a : P} (h : f [.p (.fz ns), .ref 0, .p a] [tw n] = some (.ok (.p x), [tw n'])) {S : List O} : callV f [.p (.fz ns), .ref 0, .p a] (tw n :: S) = some (.ok (.p x), tw n' :: S) := cvt [a] h
theorem cvt2 {f : Fn} {ns : List Int} {n n' : Nat} {x a b : P} (h : f [.p (.fz ns), .ref 0, .p a, .p b] [tw n] = some (.ok (.p x), [tw n'])) {S : List O} : callV f [.p (.fz ns), .ref 0, .p a, .p b] (tw n :: S) = some (.ok (.p x), tw n' :: S) := cvt [a, b] h
theorem cvt3 {f : Fn} {ns : List Int} {n n' : Nat} {x a b c : P} (h : f [.p (.fz ns), .ref 0, .p a, .p b, .p c] [tw n] = some (.ok (.p x), [tw n'])) {S : List O} : callV f [.p (.fz ns), .ref 0, .p a, .p b, .p c] (tw n :: S) = some (.ok (.p x), tw n' :: S) := cvt [a, b, c] h
/-! ### sheets, rows, facts as data -/
abbrev F3 := Int × Int × Int
abbrev fP (f : F3) : P := .tup [.int f.1, .int f.2.1, .int f.2.2]
abbrev fsP (fs : List F3) : P := .tup (fs.map fP)
abbrev sP (l m : Int) (fs : List F3) : P := .tup [.int l, .int m, fsP fs]
abbrev rP (r : List Int) : P := .tup (r.map P.int)
/-- facts of rows so long, by this number -/
def Gd (l m : Int) (fs : List F3) : Prop := ∀ f ∈ fs, 0 ≤ f.1 ∧ f.1 < f.2.1 ∧ f.2.1 ≤ l ∧ 0 ≤ f.2.2 ∧ f.2.2 < m
def GdR (l m : Int) (r : List Int) : Prop := (r.length : Int) = l ∧ ∀ x ∈ r, 0 ≤ x ∧ x < m
/-- the sum of a stretch -/
def ssm (r : List Int) (i j : Int) : Int := (cutP r (some i) (some j)).sum
def fitB (m : Int) (r : List Int) (f : F3) : Bool := decide (ssm r f.1 f.2.1 % m = f.2.2)
theorem Gd.take {l m : Int} {fs : List F3} (h : Gd l m fs) (n : Nat) : Gd l m (fs.take n) := fun f hf => h f (List.mem_of_mem_take hf)
theorem Gd.drop {l m : Int} {fs : List F3} (h : Gd l m fs) (n : Nat) : Gd l m (fs.drop n) := fun f hf => h f (List.mem_of_mem_drop hf)
theorem Gd.app {l m : Int} {fs gs : List F3} (h : Gd l m fs) (h2 : Gd l m gs) : Gd l m (fs ++ gs) := fun f hf => (List.mem_append.mp hf).elim (h f) (h2 f)
theorem Gd.one {l m : Int} {f : F3} (h : 0 ≤ f.1 ∧ f.1 < f.2.1 ∧ f.2.1 ≤ l ∧ 0 ≤ f.2.2 ∧ f.2.2 < m) : Gd l m [f] := fun g hg => by rw [List.mem_singleton.mp hg]; exact h
theorem Gd.nil {l m : Int} : Gd l m [] := fun f hf => by simp at hf
end Z

end
section
namespace Z
open PySem L2
local macro_rules | `(tactic| tbr_iter [$ts,*]) => `(tactic| simp (disch := first | assumption | omega | (simp only [List.length_map, List.length_cons, List.length_nil, List.length_append, List.length_range, List.length_take, List.length_drop]; omega)) only [ev_var0s, ev_varS, ev_c, dr_p, dr_0, dr_S, pu_pl, pu_pd, pu_pdT, retO_s, ev_mv, fMv_ref, fMvx_s, ev_p1, fP1_ok, fP1d_s, ev_p2, fP2a_ok, fP2a_exc, fP2b_ok, fP2b_exc, fP2c_s, evs_nil, evs_cons, fEa_ok, fEa_exc, fEb_ok, fEb_exc, drs_nil, drs_cons, fDc_s, ev_pn, fPn_ok, fPn_exc, fPd_s, purs_nil, purs_cons, ev_tup, fTup_ok, fTup_exc, fTd_s, ev_lst, fLst_ok, fLst_exc, fLd_s, ev_newL, fNewL_ok, fNewL_exc, fNd_s, ev_newD, ev_and, fAnd_t, fAnd_f, fAnd_exc, ev_or, fOr_t, fOr_f, fOr_exc, ev_not, fNot_b, fNot_exc, ev_if, fIf_t, fIf_f, fIf_exc, ev_tB, ftB_b, ftB_exc, ev_tTr, ftT_ok, ftT_exc, ftTd_s, tr_non, tr_bl, tr_int, tr_tup, tr_lst, tr_0, tr_S, otr_pl, ev_tand, ftAnd_t, ftAnd_f, ftAnd_exc, ev_tor, ftOr_t, ftOr_f, ftOr_exc, ev_tnot, ftNot_b, ftNot_exc, ev_tyes, ev_sl, fSa_ok, fSa_exc, fSb_ok, fSc_ok, fSd_s, evO_n, evO_s, fO_i, ev_ch, fCa_ok, fCb_ok, fCc_t, fCc_f, ev_call, fCall_ok, fCall_exc, fRp_ok, fRp_exc, cv_1, cv_2, cv_3, cv_4, cv_5, fRt_ok, ev_lc, it_seq, fSeq_t, fSeq_l, it_en, fEn_t, fEn_l, it_r1, fR1_ok, it_r2, fR2a_ok, fR2b_ok, it_z, fZa_ok, fZb_t, fZb_l, ev_me, fMa_ok, fMb_t, fMc_ok, fMc_exc, la_0, la_r0, la_S, fPush_s, app_S, ext_S, W_seq, W_pass, Wn_cons, Wn_nil, W_set, wSet_ok, wSet_exc, W_expr, wEx_ok, wEx_exc, W_ret, wRet_ok, wRet_exc, W_if, wIf_t, wIf_f, wIf_exc, W_brk, W_cont, W_raise, W_asg, wAsg_ok, wAsg_exc, wA_s, asg_nm, asg_tp, asg_tpl, asgs_nil, asgs_cons, fAs_s, W_par2, wPa_ok, wPa_exc, wPb_ok, wPb_exc, clr_nil, clr_cons, W_for, wFor_ok, wFor_exc, IQ_nx, IQ_ct, IQ_bk, IQ_rt, IQ_ex, wB_s, lcE1_s, lcE2_t, lcE2_f, lcE3_s, fLm_s, fLt_s, fLc_ok, o_mod, o_fdiv, o_mulR, o_mulL, o_addT, o_addL, o_sumT, o_sumL, o_app, o_ext, cut_map, cut_0j, cut_i, atI_map, atI_i, all_b, any_b, is_t, is_tl, is_ti, is_tb, is_tn, is_ts, is_i, is_ib, is_it, is_il, is_in, is_is, is_b, is_bi, is_bt, is_bl, is_bn, is_bs, addP_i, subP_i, negP_i, ltP_i, leP_i, gtP_i, geP_i, isP_n, isP_i, isP_b, isP_t, isP_l, isP_s, isNotP_n, isNotP_i, isNotP_b, isNotP_t, isNotP_l, isNotP_s, isP_bb, isNotP_bb, idxP_t, idxP_l, atI_0, atI_1, atI_2, sliceP_t, sliceP_l, lenP_t, lenP_l, lenP_f, tupleP_t, tupleP_l, listP_t, listP_l, minP_i, maxP_i, intP_i, intP_b, eqP_int, neP_int, List.set_cons_zero, List.set_cons_succ, List.length_cons, List.length_nil, List.map_cons, List.map_nil, List.length_map, List.cons_append, List.nil_append, List.append_nil, Option.map_some, Int.toNat_natCast, Int.reduceToNat, List.getElem?_map, List.getElem?_cons_zero, List.getElem?_cons_succ, List.replicate_zero, List.replicate_succ, Nat.sub_self, Nat.reduceSub, Nat.reduceAdd, Bool.not_true, Bool.not_false, List.take_zero, List.take_succ_cons, and_true, true_and, decide_true, decide_false, Int.cast_ofNat_Int, Int.reduceEq, Int.reduceNe, Int.reduceLT, Int.reduceLE, $[$ts:term],*])
theorem rest_eq (v m : Int) (hm : 0 < m) (hm2 : m < 1073741824) : f_l_rest [.p (.int v), .p (.int m)] [] = some (.ok (.p (.int (v % m))), []) := by
  refine fn_W (k := 2) ?_ rfl
  unfold b_l_rest
  tbr_iter [rest_by]
  all_goals simp
theorem rest_of_eq' (l m : Int) (fs : List F3) (r : List Int) (i j : Int) (hb : 0 < m) : f_rest_of [.p (sP l m fs), .p (rP r), .p (.int i), .p (.int j)] [] = some (.ok (.p (.int (ssm r i j % m))), []) := by
  refine fn_W (k := 4) ?_ rfl
  unfold b_rest_of
  tbr_iter []
  all_goals simp [ssm]
theorem pick_eq {d : Fn} (hd : DrawOk d) (ns : List Int) (n : Nat) (xs : List P) (hx : 0 < xs.length) (hn : n < 900000) : ∃ x ∈ xs, f_l_pick d [.p (.fz ns), .ref 0, .p (.lst xs)] [tw n] = some (.ok (.p x), [tw (n + 1)]) := by
  obtain ⟨r, h0, h1, e⟩ := hd.i ns n xs.length (by omega) hn
  have hr : r.toNat < xs.length := by omega
  refine ⟨xs[r.toNat], List.getElem_mem hr, fn_W (k := 3) ?_ rfl⟩
  unfold b_l_pick
  tbr_iter [cvt1 e, List.getElem?_eq_getElem hr]
  all_goals simp
theorem row_eq {d : Fn} (hd : DrawOk d) (ns : List Int) (n : Nat) (l m : Int) (hl : 0 ≤ l) (hl2 : l ≤ 1000) (hm : 0 < m) (hn : n < 800000) :
    ∃ r, f_l_row_2 d [.p (.fz ns), .ref 0, .p (.int l), .p (.int m)] [tw n] = some (.ok (.p (rP r)), [tw (n + l.toNat)]) ∧ GdR l m r := by
  have key : ∃ x S1, f_l_row_2 d [.p (.fz ns), .ref 0, .p (.int l), .p (.int m)] [tw n] = some (.ok (.p x), S1) ∧ ∃ r, x = rP r ∧ S1 = [tw (n + l.toNat)] ∧ GdR l m r := by
    refine fn_Wx (k := 5) ?_ (by rintro x S1 ⟨r, rfl, rfl, _⟩; rfl)
    unfold b_l_row_2
    tbr_iter []
    generalize hL : lcL _ _ _ _ _ _ _ = L
    obtain ⟨acc, s, rfl, r, rfl, h2, h3⟩ := lcD hL (fun k : Nat => [tw k]) (fun i acc k => ∃ r : List Int, acc = r.map P.int ∧ k = n + i ∧ (r.length : Int) = i ∧ ∀ x ∈ r, 0 ≤ x ∧ x < m) n rfl ⟨[], rfl, rfl, rfl, by simp⟩ (by simp; omega) (by
      rintro i y acc k hi ⟨r, rfl, rfl, h3, h4⟩
      have := (List.getElem?_eq_some_iff.mp hi).1
      rw [List.length_range] at this
      obtain ⟨z, z0, z1, e⟩ := hd.i ns (n + i) m hm (by omega)
      refine ⟨_, .int z, n + i + 1, rfl, ?_, r ++ [z], by simp, rfl, by simp; omega, ?_⟩
      · tbr_iter [cvt1 e]
      · intro x hx
        rcases List.mem_append.mp hx with q | q
        · exact h4 x q
        · rw [List.mem_singleton.mp q]; exact ⟨z0, z1⟩)
    tbr_iter []
    rw [List.length_range] at h2 h3
    exact ⟨_, rfl, r, rfl, by rw [h2], by omega, h3.2⟩
  obtain ⟨x, S1, h, r, rfl, rfl, h2⟩ := key
  exact ⟨r, h, h2⟩
theorem min2_ok {a : Int} (h : 0 < a) : 0 < (if a < 2 then a else 2) ∧ (if a < 2 then a else 2) ≤ a := by
  split <;> omega
theorem facts2_eq {d : Fn} (hd : DrawOk d) (ns : List Int) (n : Nat) (row : List Int) (m most : Int) (hm : 2 ≤ m) (hm2 : m < 1073741824) (hl : 0 < row.length) (hl2 : row.length ≤ 1000) (h0 : 0 ≤ most) (h1 : most ≤ 1000) (hn : n < 800000) :
    ∃ fs n', f_l_facts_2 d [.p (.fz ns), .ref 0, .p (rP row), .p (.int m), .p (.int most)] [tw n] = some (.ok (.p (fsP fs)), [tw n']) ∧ n' ≤ n + 1 + 3 * most.toNat ∧ Gd row.length m fs ∧ (fs.length : Int) ≤ most ∧ ∀ f ∈ fs, fitB m row f = true := by
  have key : ∃ x S1, f_l_facts_2 d [.p (.fz ns), .ref 0, .p (rP row), .p (.int m), .p (.int most)] [tw n] = some (.ok (.p x), S1) ∧ ∃ fs n', x = fsP fs ∧ S1 = [tw n'] ∧ n' ≤ n + 1 + 3 * most.toNat ∧ Gd row.length m fs ∧ (fs.length : Int) ≤ most ∧ ∀ f ∈ fs, fitB m row f = true := by
    refine fn_Wx (k := 11) ?_ (by rintro x S1 ⟨r, n', rfl, rfl, _⟩; rfl)
    unfold b_l_facts_2
    obtain ⟨q, q0, q1, e⟩ := hd.i ns n (most + 1) (by omega) (by omega)
    tbr_iter [cvt1 e]
    refine W_rng (σ := List F3 × Nat) 0 q.toNat (fun s => [some (.p (.fz ns)), some (.ref 0), some (.p (rP row)), some (.p (.int m)), some (.p (.int most)), some (.p (fsP s.1)), none, none, none, none, none]) (fun s => [tw s.2]) (fun i s => s.1.length = i ∧ s.2 = n + 1 + 3 * i ∧ Gd row.length m s.1 ∧ ∀ f ∈ s.1, fitB m row f = true) ([], n + 1) rfl rfl ⟨rfl, rfl, Gd.nil, by simp⟩ ?_ ?_
    · rintro i ⟨fs, k⟩ hi ⟨j1, j2, j3, j4⟩
      simp only at j1 j2 j3 j4
      obtain ⟨a, a0, a1, e1⟩ := hd.i ns k row.length (by omega) (by omega)
      obtain ⟨z1, z2⟩ := min2_ok (show 0 < (row.length : Int) - a by omega)
      obtain ⟨b, b0, e2⟩ := pick_eq hd ns (k + 1) [.int ((row.length : Int) - a), .int (if (row.length : Int) - a < 2 then (row.length : Int) - a else 2)] (by simp) (by omega)
      have hb : ∃ b' : Int, b = .int b' ∧ 0 < b' ∧ b' ≤ row.length - a := by
        rcases List.mem_cons.mp b0 with q | q
        · exact ⟨_, q, by omega, by omega⟩
        · exact ⟨_, List.mem_singleton.mp q, z1, z2⟩
      obtain ⟨b', rfl, b1, b2⟩ := hb
      obtain ⟨c, c0, c1, e3⟩ := hd.i ns (k + 1 + 1) b' (by omega) (by omega)
      tbr_iter [cvt1 e1, cvt1 e2, cvt1 e3, rest_by]
      refine ⟨(fs ++ [(a, a + 1 + c, ssm row a (a + 1 + c) % m)], k + 1 + 1 + 1), by simp [ssm], rfl, by simp [j1], by simp only; omega, ?_, ?_⟩
      · exact j3.app (Gd.one ⟨a0, by simp only; omega, by simp only; omega, Int.emod_nonneg _ (by omega), Int.emod_lt_of_pos _ (by omega)⟩)
      · intro f hf
        rcases List.mem_append.mp hf with q | q
        · exact j4 f q
        · rw [List.mem_singleton.mp q]; simp [fitB]
    · rintro ⟨fs, k⟩ ⟨j1, j2, j3, j4⟩
      tbr_iter []
      exact ⟨_, rfl, fs, k, rfl, rfl, by simp only at j2; omega, j3, by simp only at j1; omega, j4⟩
  obtain ⟨x, S1, h, fs, n', rfl, rfl, h2⟩ := key
  exact ⟨fs, n', h, h2⟩
theorem sheet2_eq {d : Fn} (hd : DrawOk d) (ns : List Int) (n : Nat) (most : Int) (h0 : 0 ≤ most) (h1 : most ≤ 1000) (hn : n < 700000) :
    ∃ l m fs row n', f_l_sheet_2 d [.p (.fz ns), .ref 0, .p (.int most)] [tw n] = some (.ok (.p (.tup [sP l m fs, rP row])), [tw n']) ∧ n' ≤ n + 13 + 3 * most.toNat ∧ 1 ≤ l ∧ l ≤ 9 ∧ 2 ≤ m ∧ m ≤ 99 ∧ Gd l m fs ∧ (fs.length : Int) ≤ most ∧ GdR l m row ∧ ∀ f ∈ fs, fitB m row f = true := by
  obtain ⟨a, a0, a1, e1⟩ := hd.i ns n 9 (by omega) (by omega)
  obtain ⟨b, b0, e2⟩ := pick_eq hd ns (n + 1) [.int 3, .int 98] (by simp) (by omega)
  have hb : ∃ b' : Int, b = .int b' ∧ 0 < b' ∧ b' ≤ 98 := by
    rcases List.mem_cons.mp b0 with q | q
    · exact ⟨_, q, by omega, by omega⟩
    · exact ⟨_, List.mem_singleton.mp q, by omega, by omega⟩
  obtain ⟨b', rfl, b1, b2⟩ := hb
  obtain ⟨c, c0, c1, e3⟩ := hd.i ns (n + 1 + 1) b' (by omega) (by omega)
  obtain ⟨row, e4, r1, r2⟩ := row_eq hd ns (n + 1 + 1 + 1) (1 + a) (2 + c) (by omega) (by omega) (by omega) (by omega)
  obtain ⟨fs, n', e5, f1, f2, f3, f4⟩ := facts2_eq hd ns (n + 1 + 1 + 1 + (1 + a).toNat) row (2 + c) most (by omega) (by omega) (by omega) (by omega) h0 h1 (by omega)
  refine ⟨1 + a, 2 + c, fs, row, n', ?_, by omega, by omega, by omega, by omega, by omega, by rw [← r1]; exact f2, f3, ⟨r1, r2⟩, f4⟩
  refine fn_W (k := 6) ?_ rfl
  unfold b_l_sheet_2
  tbr_iter [cvt1 e1, cvt1 e2, cvt1 e3, cvt2 e4, cvt3 e5]
  all_goals simp
theorem isE_map {α β : Type} (f : α → β) (xs : List α) : (xs.map f).isEmpty = xs.isEmpty := by cases xs <;> rfl
theorem lays_fs : ∀ fs : List F3, lays 15 (fs.map fP) = true
  | [] => rfl
  | f :: fs => by
    rw [List.map_cons, lays, lays_fs fs]
    rfl
theorem fs_nil (fs : List F3) : eqP (.tup (fs.map fP)) (.tup []) = some (.bl fs.isEmpty) := by
  have h : lay 16 (.tup (fs.map fP)) = true := lays_fs fs
  unfold eqP
  rw [h]
  cases fs <;> rfl
theorem wrong_ne (c r m : Int) (h1 : 0 ≤ c) (h2 : c < m) (h3 : 0 ≤ r) (h4 : r < m - 1) : (c + 1 + r) % m ≠ c := by
  intro h
  by_cases hc : c + 1 + r < m
  · rw [Int.emod_eq_of_lt (by omega) hc] at h; omega
  · have : (c + 1 + r) % m = (c + 1 + r - m) % m := by rw [Int.sub_emod_right]
    rw [this, Int.emod_eq_of_lt (by omega) (by omega)] at h; omega
/-- the i-th fact told otherwise -/
def toldO (fs : List F3) (i : Nat) (f : F3) (v : Int) : List F3 := fs.take i ++ [(f.1, f.2.1, v)] ++ fs.drop (i + 1)
theorem lied_eq {d : Fn} (hd : DrawOk d) (ns : List Int) (n : Nat) (l m : Int) (fs : List F3) (hm : 2 ≤ m) (hg : Gd l m fs) (hm2 : m < 1073741824) (hf : fs.length ≤ 1000) (hn : n < 800000) :
    ∃ fs' n', f_l_lied d [.p (.fz ns), .ref 0, .p (sP l m fs)] [tw n] = some (.ok (.p (sP l m fs')), [tw n']) ∧ n' ≤ n + 2 ∧ Gd l m fs' ∧
      ((fs = [] ∧ fs' = []) ∨ ∃ (i : Nat) (f : F3) (v : Int), fs[i]? = some f ∧ v ≠ f.2.2 ∧ 0 ≤ v ∧ v < m ∧ fs' = toldO fs i f v) := by
  cases hfs : fs.isEmpty with
  | true =>
    have : fs = [] := by simpa using hfs
    subst this
    refine ⟨[], n, fn_W (k := 11) ?_ rfl, by omega, Gd.nil, .inl ⟨rfl, rfl⟩⟩
    unfold b_l_lied
    tbr_iter [fs_nil, hfs]
    all_goals simp
  | false =>
    have hpos : 0 < fs.length := by cases fs <;> simp at hfs ⊢
    obtain ⟨i, i0, i1, e1⟩ := hd.i ns n fs.length (by omega) (by omega)
    have hi : i.toNat < fs.length := by omega
    obtain ⟨f, hfi⟩ : ∃ f, fs[i.toNat]? = some f := ⟨_, List.getElem?_eq_getElem hi⟩
    obtain ⟨g1, g2, g3, g4, g5⟩ := hg f (List.mem_of_getElem? hfi)
    obtain ⟨r, r0, r1, e2⟩ := hd.i ns (n + 1) (m - 1) (by omega) (by omega)
    have v1 := Int.emod_nonneg (f.2.2 + 1 + r) (show m ≠ 0 by omega)
    have v2 := Int.emod_lt_of_pos (f.2.2 + 1 + r) (show 0 < m by omega)
    have hti : (i + 1).toNat = i.toNat + 1 := by omega
    refine ⟨toldO fs i.toNat f ((f.2.2 + 1 + r) % m), n + 1 + 1, fn_W (k := 11) ?_ rfl, by omega, ?_, .inr ⟨i.toNat, f, _, hfi, wrong_ne _ _ m g4 g5 (by omega) (by omega), v1, v2, rfl⟩⟩
    · unfold b_l_lied
      tbr_iter [fs_nil, hfs, cvt1 e1, cvt1 e2, hfi, rest_by, hti]
      all_goals simp [toldO]
    · exact ((hg.take _).app (Gd.one (f := (f.1, f.2.1, (f.2.2 + 1 + r) % m)) ⟨g1, g2, g3, v1, v2⟩)).app (hg.drop _)
/-! all stretches -/
abbrev p2P (q : Int × Int) : P := .tup [.int q.1, .int q.2]
def strsL (l : Int) (k : Nat) : List (Int × Int) := (List.range k).flatMap fun i : Nat => (List.range (l - i).toNat).map fun t : Nat => ((i : Int), (i : Int) + 1 + t)
theorem strsL_succ (l : Int) (k : Nat) : strsL l (k + 1) = strsL l k ++ (List.range (l - k).toNat).map fun t : Nat => ((k : Int), (k : Int) + 1 + t) := by
  unfold strsL
  rw [List.range_succ, List.flatMap_append]
  simp
theorem strsL_mem {l : Int} {k : Nat} {q : Int × Int} (hk : k ≤ l) : q ∈ strsL l k ↔ 0 ≤ q.1 ∧ q.1 < k ∧ q.1 < q.2 ∧ q.2 ≤ l := by
  unfold strsL
  rw [List.mem_flatMap]
  constructor
  · rintro ⟨i, h1, h2⟩
    obtain ⟨t, h3, rfl⟩ := List.mem_map.mp h2
    have := List.mem_range.mp h3
    have := List.mem_range.mp h1
    refine ⟨by simp only; omega, by simp only; omega, by simp only; omega, by simp only; omega⟩
  · rintro ⟨h1, h2, h3, h4⟩
    refine ⟨q.1.toNat, List.mem_range.mpr (by omega), List.mem_map.mpr ⟨(q.2 - q.1 - 1).toNat, List.mem_range.mpr (by omega), ?_⟩⟩
    obtain ⟨a, b⟩ := q
    simp only at *
    ext <;> simp only <;> omega
theorem strsL_len {l : Int} (hl : l ≤ 100) : ∀ k, (strsL l k).length ≤ 100 * k
  | 0 => by simp [strsL]
  | k + 1 => by
    rw [strsL_succ, List.length_append, List.length_map, List.length_range]
    have := strsL_len hl k
    omega
theorem stretches_eq (l : Int) (h0 : 0 ≤ l) (hl : l ≤ 100) : f_l_stretches [.p (.int l)] [] = some (.ok (.p (.lst ((strsL l l.toNat).map p2P))), []) := by
  refine fn_W (k := 4) ?_ rfl
  unfold b_l_stretches
  tbr_iter []
  refine W_rng (σ := List (Int × Int)) 0 l.toNat (fun s => [some (.p (.int l)), some (.ref 0), none, none]) (fun s => [.pl (s.map p2P)]) (fun i s => s = strsL l i) [] rfl rfl rfl ?_ ?_
  · rintro i s hi rfl
    tbr_iter [Int.zero_add]
    generalize hL : lcL _ _ _ _ _ _ _ = L
    have hz := strsL_len hl i
    obtain rfl := lcM hL (fun t : Nat => p2P ((i : Int), (i : Int) + 1 + t)) (by intro t ht; tbr_iter []) (by simp; omega)
    have h3 : (l + 1 - ((i : Int) + 1)).toNat = (l - i).toNat := by omega
    rw [h3]
    tbr_iter []
    exact ⟨_, by rw [strsL_succ, List.map_append, List.map_map]; rfl, rfl⟩
  · rintro s rfl
    tbr_iter []
    all_goals simp
end Z

end
section
namespace Z
open PySem L2
local macro_rules | `(tactic| tbr_iter [$ts,*]) => `(tactic| simp (disch := first | assumption | omega | (simp only [List.length_map, List.length_cons, List.length_nil, List.length_append, List.length_range, List.length_take, List.length_drop]; omega)) only [ev_var0s, ev_varS, ev_c, dr_p, dr_0, dr_S, pu_pl, pu_pd, pu_pdT, retO_s, ev_mv, fMv_ref, fMvx_s, ev_p1, fP1_ok, fP1d_s, ev_p2, fP2a_ok, fP2a_exc, fP2b_ok, fP2b_exc, fP2c_s, evs_nil, evs_cons, fEa_ok, fEa_exc, fEb_ok, fEb_exc, drs_nil, drs_cons, fDc_s, ev_pn, fPn_ok, fPn_exc, fPd_s, purs_nil, purs_cons, ev_tup, fTup_ok, fTup_exc, fTd_s, ev_lst, fLst_ok, fLst_exc, fLd_s, ev_newL, fNewL_ok, fNewL_exc, fNd_s, ev_newD, ev_and, fAnd_t, fAnd_f, fAnd_exc, ev_or, fOr_t, fOr_f, fOr_exc, ev_not, fNot_b, fNot_exc, ev_if, fIf_t, fIf_f, fIf_exc, ev_tB, ftB_b, ftB_exc, ev_tTr, ftT_ok, ftT_exc, ftTd_s, tr_non, tr_bl, tr_int, tr_tup, tr_lst, tr_0, tr_S, otr_pl, ev_tand, ftAnd_t, ftAnd_f, ftAnd_exc, ev_tor, ftOr_t, ftOr_f, ftOr_exc, ev_tnot, ftNot_b, ftNot_exc, ev_tyes, ev_sl, fSa_ok, fSa_exc, fSb_ok, fSc_ok, fSd_s, evO_n, evO_s, fO_i, ev_ch, fCa_ok, fCb_ok, fCc_t, fCc_f, ev_call, fCall_ok, fCall_exc, fRp_ok, fRp_exc, cv_1, cv_2, cv_3, cv_4, cv_5, fRt_ok, ev_lc, it_seq, fSeq_t, fSeq_l, it_en, fEn_t, fEn_l, it_r1, fR1_ok, it_r2, fR2a_ok, fR2b_ok, it_z, fZa_ok, fZb_t, fZb_l, ev_me, fMa_ok, fMb_t, fMc_ok, fMc_exc, la_0, la_r0, la_S, fPush_s, app_S, ext_S, W_seq, W_pass, Wn_cons, Wn_nil, W_set, wSet_ok, wSet_exc, W_expr, wEx_ok, wEx_exc, W_ret, wRet_ok, wRet_exc, W_if, wIf_t, wIf_f, wIf_exc, W_brk, W_cont, W_raise, W_asg, wAsg_ok, wAsg_exc, wA_s, asg_nm, asg_tp, asg_tpl, asgs_nil, asgs_cons, fAs_s, W_par2, wPa_ok, wPa_exc, wPb_ok, wPb_exc, clr_nil, clr_cons, W_for, wFor_ok, wFor_exc, IQ_nx, IQ_ct, IQ_bk, IQ_rt, IQ_ex, wB_s, lcE1_s, lcE2_t, lcE2_f, lcE3_s, fLm_s, fLt_s, fLc_ok, o_mod, o_fdiv, o_mulR, o_mulL, o_addT, o_addL, o_sumT, o_sumL, o_app, o_ext, cut_map, cut_0j, cut_i, atI_map, atI_i, all_b, any_b, is_t, is_tl, is_ti, is_tb, is_tn, is_ts, is_i, is_ib, is_it, is_il, is_in, is_is, is_b, is_bi, is_bt, is_bl, is_bn, is_bs, addP_i, subP_i, negP_i, ltP_i, leP_i, gtP_i, geP_i, isP_n, isP_i, isP_b, isP_t, isP_l, isP_s, isNotP_n, isNotP_i, isNotP_b, isNotP_t, isNotP_l, isNotP_s, isP_bb, isNotP_bb, idxP_t, idxP_l, atI_0, atI_1, atI_2, sliceP_t, sliceP_l, lenP_t, lenP_l, lenP_f, tupleP_t, tupleP_l, listP_t, listP_l, minP_i, maxP_i, intP_i, intP_b, eqP_int, neP_int, List.set_cons_zero, List.set_cons_succ, List.length_cons, List.length_nil, List.map_cons, List.map_nil, List.length_map, List.cons_append, List.nil_append, List.append_nil, Option.map_some, Int.toNat_natCast, Int.reduceToNat, List.getElem?_map, List.getElem?_cons_zero, List.getElem?_cons_succ, List.replicate_zero, List.replicate_succ, Nat.sub_self, Nat.reduceSub, Nat.reduceAdd, Bool.not_true, Bool.not_false, List.take_zero, List.take_succ_cons, and_true, true_and, decide_true, decide_false, Int.cast_ofNat_Int, Int.reduceEq, Int.reduceNe, Int.reduceLT, Int.reduceLE, $[$ts:term],*])
/-! ### more of the machine -/
theorem tk_map {α β : Type} (f : α → β) (n : Nat) (xs : List α) : List.take n (xs.map f) = (xs.take n).map f := List.map_take.symm
theorem dp_map {α β : Type} (f : α → β) (n : Nat) (xs : List α) : List.drop n (xs.map f) = (xs.drop n).map f := List.map_drop.symm
theorem app_map {α β : Type} (f : α → β) (xs ys : List α) : xs.map f ++ ys.map f = (xs ++ ys).map f := List.map_append.symm
theorem neP_nn : neP .non .non = some (.bl false) := rfl
theorem neP_in {i : Int} : neP (.int i) .non = some (.bl true) := rfl
theorem neP_ni {i : Int} : neP .non (.int i) = some (.bl true) := rfl
theorem eqP_nn : eqP .non .non = some (.bl true) := rfl
theorem eqP_in {i : Int} : eqP (.int i) .non = some (.bl false) := rfl
theorem eqP_ni {i : Int} : eqP .non (.int i) = some (.bl false) := rfl
theorem neP_bb {a b : Bool} : neP (.bl a) (.bl b) = some (.bl (a != b)) := by cases a <;> cases b <;> rfl
theorem eqP_bb {a b : Bool} : eqP (.bl a) (.bl b) = some (.bl (a == b)) := by simp [eqP, lay, eqB]
theorem ssm_fold (r : List Int) (i j : Int) : (cutP r (some i) (some j)).sum = ssm r i j := rfl
theorem lays_bl {α : Type} (p : α → Bool) (n : Nat) : ∀ xs : List α, lays n (xs.map fun x => P.bl (p x)) = true
  | [] => by cases n <;> rfl
  | x :: xs => by rw [List.map_cons, lays, lays_bl p n xs]; cases n <;> rfl
theorem in_bl {α : Type} (p : α → Bool) (xs : List α) : inP (.bl false) (.lst (xs.map fun x => .bl (p x))) = some (.bl (xs.any fun x => !p x)) := by
  have h : lay 16 (.lst (xs.map fun x => .bl (p x))) = true := lays_bl p 15 xs
  show (if (lay 16 (P.bl false) && lay 16 (.lst (xs.map fun x => .bl (p x)))) = true then _ else _) = _
  rw [h]
  simp only [lay, Bool.and_self, if_true, List.any_map]
  congr 3
  funext x
  show eqB (.bl (p x)) (.bl false) = _
  cases p x <;> rfl
def fIxa (me : EM) (env : Env) (o : Out Val) : Out Val := bnd o fun v S1 => match v with
  | .p (.lst ys) => bnd (me env S1) fun u S2 => (deref S2 u).bind fun x => if (lay 16 x && lay 16 (.lst ys)) = true then
      (ys.findIdx? fun z => eqB z x).bind fun j => ret1 (.int (j : Int)) S2 else none
  | _ => none
def fIxb (ys : List P) (o : Out Val) : Out Val := bnd o fun u S2 => (deref S2 u).bind fun x => if (lay 16 x && lay 16 (.lst ys)) = true then
      (ys.findIdx? fun z => eqB z x).bind fun j => ret1 (.int (j : Int)) S2 else none
def fIxc (o : Option Nat) (S : List O) : Out Val := o.bind fun j => ret1 (.int (j : Int)) S
theorem ev_ixo {mo me : EM} {env : Env} {S : List O} : mIdxOf mo me env S = fIxa me env (mo env S) := by
  unfold mIdxOf fIxa
  rfl
theorem fIxa_ok {me : EM} {env : Env} {S : List O} {ys : List P} : fIxa me env (some (.ok (.p (.lst ys)), S)) = fIxb ys (me env S) := id rfl
theorem fIxb_bl {α : Type} {p : α → Bool} {xs : List α} {S : List O} : fIxb (xs.map fun x => .bl (p x)) (some (.ok (.p (.bl false)), S)) = fIxc (xs.findIdx? fun x => !p x) S := by
  have h : lay 16 (.lst (xs.map fun x => .bl (p x))) = true := lays_bl p 15 xs
  unfold fIxb
  rw [bnd_ok, dr_p, Option.bind_some, h]
  simp only [lay, Bool.and_self, if_true, List.findIdx?_map]
  unfold fIxc
  congr 2
  funext x
  show eqB (.bl (p x)) (.bl false) = _
  cases p x <;> rfl
theorem fIxc_s {j : Nat} {S : List O} : fIxc (some j) S = some (.ok (.p (.int (j : Int))), S) := id rfl
abbrev optN : Option Nat → P
  | none => .non
  | some i => .int (i : Int)
/-! ### fits, unfit, is_sheet -/
theorem fits_eq' (l m : Int) (fs : List F3) (r : List Int) (hm : 0 < m) (hl : fs.length ≤ 1000000) : f_fits [.p (sP l m fs), .p (rP r)] [] = some (.ok (.p (.bl (fs.all (fitB m r)))), []) := by
  refine fn_W (k := 5) ?_ rfl
  unfold b_fits
  tbr_iter []
  generalize hL : lcL _ _ _ _ _ _ _ = L
  obtain rfl := lcM hL (fun f => .bl (fitB m r f)) (by
    intro f _
    tbr_iter [rest_of_eq']
    rfl) hl
  tbr_iter []
  all_goals simp
theorem unfit_eq' (l m : Int) (fs : List F3) (r : List Int) (hm : 0 < m) : f_unfit [.p (sP l m fs), .p (rP r)] [] = some (.ok (.p (optN (fs.findIdx? fun f => !fitB m r f))), []) := by
  refine fn_W (k := 6) ?_ rfl
  unfold b_unfit
  tbr_iter []
  refine W_enum (σ := Unit) fs fP (fun _ => [some (.p (sP l m fs)), some (.p (rP r)), none, none, none, none]) (fun _ => []) (fun i _ => ∀ j f, j < i → fs[j]? = some f → fitB m r f = true) () rfl rfl (by omega) ?_ ?_
  · intro i f s hf hj
    tbr_iter [rest_of_eq']
    rw [wIf_c]
    refine ⟨fun h => ?_, fun h => ?_⟩
    · tbr_iter []
      have : fs.findIdx? (fun f => !fitB m r f) = some i := by
        rw [List.findIdx?_eq_some_iff_getElem]
        obtain ⟨h1, h2⟩ := List.getElem?_eq_some_iff.mp hf
        refine ⟨h1, by rw [h2]; simpa [fitB] using h, fun j hj2 => ?_⟩
        have := hj j fs[j] hj2 (List.getElem?_eq_getElem (by omega))
        simp [this]
      rw [this]
    · tbr_iter []
      refine ⟨(), fun j g h1 h2 => ?_⟩
      by_cases hji : j = i
      · subst hji
        rw [hf] at h2
        cases h2
        simpa [fitB] using h
      · exact hj j g (by omega) h2
  · intro s hj
    tbr_iter []
    have : fs.findIdx? (fun f => !fitB m r f) = none := by
      rw [List.findIdx?_eq_none_iff]
      intro f hf
      obtain ⟨j, h1, h2⟩ := List.getElem_of_mem hf
      rw [hj j f h1 (by rw [List.getElem?_eq_getElem h1, h2])]
      rfl
    rw [this]
theorem whole_i (x lo hi : Int) : f_is_whole [.p (.int x), .p (.int lo), .p (.int hi)] [] = some (.ok (.p (.bl (decide (lo ≤ x ∧ x ≤ hi)))), []) := by
  refine fn_W (k := 3) ?_ rfl
  unfold b_is_whole
  tbr_iter []
  by_cases h : lo ≤ x
  · by_cases h2 : x ≤ hi
    · tbr_iter [h, h2, decide_true]; all_goals simp
    · tbr_iter [h, h2, decide_true, decide_false]; all_goals simp
  · tbr_iter [h, decide_true, decide_false]; simp [h]
theorem is_fact_eq (f : F3) (l m : Int) (h : 0 ≤ f.1 ∧ f.1 < f.2.1 ∧ f.2.1 ≤ l ∧ 0 ≤ f.2.2 ∧ f.2.2 < m) : f_is_fact [.p (fP f), .p (.int l), .p (.int m)] [] = some (.ok (.p (.bl true)), []) := by
  refine fn_W (k := 3) ?_ rfl
  unfold b_is_fact
  have h1 : decide (0 ≤ f.1 ∧ f.1 ≤ l - 1) = true := decide_eq_true (by omega)
  have h2 : decide (f.1 + 1 ≤ f.2.1 ∧ f.2.1 ≤ l) = true := decide_eq_true (by omega)
  have h3 : decide (0 ≤ f.2.2 ∧ f.2.2 ≤ m - 1) = true := decide_eq_true (by omega)
  tbr_iter [whole_i, h1, h2, h3]
  all_goals simp
theorem is_sheet_eq (l m : Int) (fs : List F3) (h1 : 1 ≤ l) (h2 : l ≤ 9) (h3 : 2 ≤ m) (h4 : m ≤ 99) (hg : Gd l m fs) (hl : fs.length ≤ 12) : f_is_sheet [.p (sP l m fs)] [] = some (.ok (.p (.bl true)), []) := by
  refine fn_W (k := 5) ?_ rfl
  unfold b_is_sheet
  have q1 : decide (1 ≤ l ∧ l ≤ 9) = true := decide_eq_true (by omega)
  have q2 : decide (2 ≤ m ∧ m ≤ 99) = true := decide_eq_true (by omega)
  have q3 : decide (12 < (fs.length : Int)) = false := decide_eq_false (by omega)
  tbr_iter [whole_i, q1, q2, q3]
  generalize hL : lcL _ _ _ _ _ _ _ = L
  obtain rfl := lcM hL (fun f => .bl true) (by
    intro f hf
    tbr_iter [is_fact_eq f l m (hg f hf)]) (by omega)
  tbr_iter []
  all_goals simp
end Z

end
section
namespace Z
open PySem L2
/-! ### steps, walks, their order (plain) -/
abbrev St := Nat × Bool
def stepTo (fs : List F3) (a : Int) (s : St) : Option Int := match fs[s.1]? with
  | some f => if s.2 = true then (if f.1 = a then some f.2.1 else none) else (if f.2.1 = a then some f.1 else none)
  | none => none
def stepR (fs : List F3) (s : St) : Int := match fs[s.1]? with
  | some f => if s.2 = true then f.2.2 else 0 - f.2.2
  | none => 0
def walk (fs : List F3) : Int → List St → Option Int
  | a, [] => some a
  | a, s :: p => (stepTo fs a s).bind fun b => walk fs b p
def walkR (fs : List F3) (p : List St) : Int := (p.map (stepR fs)).sum
theorem walk_nil {fs : List F3} {a : Int} : walk fs a [] = some a := rfl
theorem walk_cons {fs : List F3} {a : Int} {s : St} {p : List St} : walk fs a (s :: p) = (stepTo fs a s).bind fun b => walk fs b p := rfl
theorem walk_app (fs : List F3) : ∀ (p : List St) (a : Int) (q : List St), walk fs a (p ++ q) = (walk fs a p).bind fun b => walk fs b q
  | [], a, q => rfl
  | s :: p, a, q => by
    rw [List.cons_append, walk_cons, walk_cons]
    cases stepTo fs a s with
    | none => rfl
    | some b => exact walk_app fs p b q
theorem walk_snoc {fs : List F3} {p : List St} {a : Int} {s : St} : walk fs a (p ++ [s]) = (walk fs a p).bind fun b => stepTo fs b s := by
  rw [walk_app]
  cases walk fs a p with
  | none => rfl
  | some b =>
    show (stepTo fs b s).bind (fun c => some c) = stepTo fs b s
    cases stepTo fs b s <;> rfl
def sLt (s t : St) : Prop := s.1 < t.1 ∨ (s.1 = t.1 ∧ s.2 = false ∧ t.2 = true)
def lLt : List St → List St → Prop
  | s :: p, t :: q => sLt s t ∨ (s = t ∧ lLt p q)
  | _, _ => False
def pLt (p q : List St) : Prop := p.length < q.length ∨ (p.length = q.length ∧ lLt p q)
def pLe (p q : List St) : Prop := p = q ∨ pLt p q
theorem sLt_irrefl {s : St} : ¬ sLt s s := by
  rintro (h | ⟨_, h1, h2⟩)
  · omega
  · rw [h1] at h2; cases h2
theorem sLt_trans {s t u : St} (h1 : sLt s t) (h2 : sLt t u) : sLt s u := by
  rcases h1 with h1 | ⟨a1, b1, c1⟩ <;> rcases h2 with h2 | ⟨a2, b2, c2⟩
  · exact .inl (by omega)
  · exact .inl (by omega)
  · exact .inl (by omega)
  · rw [c1] at b2; cases b2
theorem sLt_total (s t : St) : s = t ∨ sLt s t ∨ sLt t s := by
  obtain ⟨n, b⟩ := s
  obtain ⟨m, c⟩ := t
  unfold sLt
  rcases Nat.lt_trichotomy n m with h | h | h
  · exact .inr (.inl (.inl h))
  · subst h
    cases b <;> cases c
    · exact .inl rfl
    · exact .inr (.inl (.inr ⟨rfl, rfl, rfl⟩))
    · exact .inr (.inr (.inr ⟨rfl, rfl, rfl⟩))
    · exact .inl rfl
  · exact .inr (.inr (.inl h))
theorem lLt_irrefl : ∀ {p : List St}, ¬ lLt p p
  | [], h => h
  | s :: p, h => h.elim sLt_irrefl fun h => lLt_irrefl h.2
theorem lLt_trans : ∀ {p q r : List St}, lLt p q → lLt q r → lLt p r
  | s :: p, t :: q, u :: r, h1, h2 => by
    rcases h1 with h1 | ⟨rfl, h1⟩ <;> rcases h2 with h2 | ⟨rfl, h2⟩
    · exact .inl (sLt_trans h1 h2)
    · exact .inl h1
    · exact .inl h2
    · exact .inr ⟨rfl, lLt_trans h1 h2⟩
  | [], _, _, h, _ => h.elim
  | _ :: _, [], _, h, _ => h.elim
  | _ :: _, _ :: _, [], _, h => h.elim
theorem lLt_total : ∀ {p q : List St}, p.length = q.length → p = q ∨ lLt p q ∨ lLt q p
  | [], [], _ => .inl rfl
  | s :: p, t :: q, h => by
    rcases sLt_total s t with rfl | h1 | h1
    · rcases lLt_total (p := p) (q := q) (by simpa using h) with rfl | h2 | h2
      · exact .inl rfl
      · exact .inr (.inl (.inr ⟨rfl, h2⟩))
      · exact .inr (.inr (.inr ⟨rfl, h2⟩))
    · exact .inr (.inl (.inl h1))
    · exact .inr (.inr (.inl h1))
  | [], _ :: _, h => by simp at h
  | _ :: _, [], h => by simp at h
theorem lLt_snoc {s t : St} : ∀ {p q : List St}, lLt p q → lLt (p ++ [s]) (q ++ [t])
  | _ :: p, _ :: q, h => h.elim .inl fun h => .inr ⟨h.1, lLt_snoc h.2⟩
  | [], _, h => h.elim
  | _ :: _, [], h => h.elim
theorem lLt_same {s t : St} (h : sLt s t) : ∀ {p : List St}, lLt (p ++ [s]) (p ++ [t])
  | [] => .inl h
  | _ :: p => .inr ⟨rfl, lLt_same h⟩
theorem pLt_irrefl {p : List St} : ¬ pLt p p := by
  rintro (h | h)
  · omega
  · exact lLt_irrefl h.2
theorem pLt_trans {p q r : List St} (h1 : pLt p q) (h2 : pLt q r) : pLt p r := by
  rcases h1 with h1 | ⟨e1, h1⟩ <;> rcases h2 with h2 | ⟨e2, h2⟩
  · exact .inl (by omega)
  · exact .inl (by omega)
  · exact .inl (by omega)
  · exact .inr ⟨by omega, lLt_trans h1 h2⟩
theorem pLe_trans {p q r : List St} (h1 : pLe p q) (h2 : pLe q r) : pLe p r := by
  rcases h1 with rfl | h1
  · exact h2
  · rcases h2 with rfl | h2
    · exact .inr h1
    · exact .inr (pLt_trans h1 h2)
theorem pLe_antisymm {p q : List St} (h1 : pLe p q) (h2 : pLe q p) : p = q := by
  rcases h1 with h | h1
  · exact h
  · rcases h2 with h | h2
    · exact h.symm
    · exact (pLt_irrefl (pLt_trans h1 h2)).elim
theorem pLt_total (p q : List St) : p = q ∨ pLt p q ∨ pLt q p := by
  rcases Nat.lt_trichotomy p.length q.length with h | h | h
  · exact .inr (.inl (.inl h))
  · rcases lLt_total h with h1 | h1 | h1
    · exact .inl h1
    · exact .inr (.inl (.inr ⟨h, h1⟩))
    · exact .inr (.inr (.inr ⟨h.symm, h1⟩))
  · exact .inr (.inr (.inl h))
theorem pLt_snoc {p q : List St} {s t : St} (h : pLt p q) : pLt (p ++ [s]) (q ++ [t]) := by
  rcases h with h | ⟨e, h⟩
  · exact .inl (by simp; omega)
  · exact .inr ⟨by simp; omega, lLt_snoc h⟩
theorem pLe_snoc {p q : List St} {s : St} (h : pLe p q) : pLe (p ++ [s]) (q ++ [s]) := h.elim (fun h => .inl (by rw [h])) fun h => .inr (pLt_snoc h)
theorem pLt_same {p : List St} {s t : St} (h : sLt s t) : pLt (p ++ [s]) (p ++ [t]) := .inr ⟨by simp, lLt_same h⟩
theorem pLe_len {p q : List St} (h : pLe p q) : p.length ≤ q.length := by
  rcases h with rfl | h | h
  · omega
  · omega
  · omega
/-- the fewest steps, of several the least -/
def IsWay (fs : List F3) (a b : Int) (p : List St) : Prop := walk fs a p = some b ∧ ∀ q, walk fs a q = some b → pLe p q
theorem IsWay.unique {fs : List F3} {a b : Int} {p q : List St} (h1 : IsWay fs a b p) (h2 : IsWay fs a b q) : p = q := pLe_antisymm (h1.2 q h2.1) (h2.2 p h1.1)
def Conn (fs : List F3) (a b : Int) : Prop := ∃ p, walk fs a p = some b
/-- what way tells -/
def WayRes (fs : List F3) (a b : Int) : Option (List St) → Prop
  | none => ¬ Conn fs a b
  | some p => IsWay fs a b p
theorem WayRes.unique {fs : List F3} {a b : Int} {x y : Option (List St)} (h1 : WayRes fs a b x) (h2 : WayRes fs a b y) : x = y := by
  cases x with
  | none => cases y with
    | none => rfl
    | some q => exact (h1 ⟨q, h2.1⟩).elim
  | some p => cases y with
    | none => exact (h2 ⟨p, h1.1⟩).elim
    | some q => rw [IsWay.unique h1 h2]
/-! all steps from a mark -/
def stepsOf (fs : List F3) (a : Int) (k : Nat) : List (Nat × Bool × Int × Int) := (fs.zipIdx k).filterMap fun p =>
  if p.1.1 = a then some (p.2, true, p.1.2.1, p.1.2.2) else if p.1.2.1 = a then some (p.2, false, p.1.1, 0 - p.1.2.2) else none
theorem stepsOf_nil (a : Int) (k : Nat) : stepsOf [] a k = [] := rfl
theorem stepsOf_cons (f : F3) (fs : List F3) (a : Int) (k : Nat) : stepsOf (f :: fs) a k = (if f.1 = a then [(k, true, f.2.1, f.2.2)] else if f.2.1 = a then [(k, false, f.1, 0 - f.2.2)] else []) ++ stepsOf fs a (k + 1) := by
  unfold stepsOf
  rw [List.zipIdx_cons, List.filterMap_cons]
  by_cases h : f.1 = a
  · simp [h]
  · by_cases h2 : f.2.1 = a
    · simp [h, h2]
    · simp [h, h2]
theorem stepsOf_ge (fs : List F3) (a : Int) : ∀ k x, x ∈ stepsOf fs a k → k ≤ x.1 := by
  induction fs with
  | nil => intro k x h; simp [stepsOf_nil] at h
  | cons f fs ih =>
    intro k x h
    rw [stepsOf_cons] at h
    rcases List.mem_append.mp h with h | h
    · split at h
      · rw [List.mem_singleton.mp h]; exact Nat.le_refl _
      · split at h
        · rw [List.mem_singleton.mp h]; exact Nat.le_refl _
        · simp at h
    · have := ih (k + 1) x h; omega
theorem stepsOf_sorted (fs : List F3) (a : Int) : ∀ k, (stepsOf fs a k).Pairwise fun x y => x.1 < y.1 := by
  induction fs with
  | nil => intro k; exact .nil
  | cons f fs ih =>
    intro k
    rw [stepsOf_cons, List.pairwise_append]
    refine ⟨?_, ih (k + 1), fun x hx y hy => ?_⟩
    · split
      · exact List.pairwise_singleton _ _
      · split
        · exact List.pairwise_singleton _ _
        · exact .nil
    · have h1 := stepsOf_ge fs a (k + 1) y hy
      have h2 : x.1 = k := by
        split at hx
        · rw [List.mem_singleton.mp hx]
        · split at hx
          · rw [List.mem_singleton.mp hx]
          · simp at hx
      omega
/-- no fact leads from a mark to itself -/
def NoLoop (fs : List F3) : Prop := ∀ f ∈ fs, f.1 ≠ f.2.1
theorem Gd.noLoop {l m : Int} {fs : List F3} (h : Gd l m fs) : NoLoop fs := fun f hf => by have := h f hf; omega
theorem stepsOf_mem (fs : List F3) (a : Int) : NoLoop fs → ∀ k n b g r, (n, b, g, r) ∈ stepsOf fs a k ↔ k ≤ n ∧ stepTo fs a (n - k, b) = some g ∧ r = stepR fs (n - k, b) := by
  induction fs with
  | nil => intro _ k n b g r; simp [stepsOf_nil, stepTo]
  | cons f fs ih =>
    intro hl k n b g r
    have hne := hl f (by simp)
    have ih := ih (fun f hf => hl f (by simp [hf])) (k + 1) n b g r
    rw [stepsOf_cons, List.mem_append, ih]
    by_cases hn : n = k
    · subst hn
      have e1 : stepTo (f :: fs) a (n - n, b) = if b = true then (if f.1 = a then some f.2.1 else none) else (if f.2.1 = a then some f.1 else none) := by simp [stepTo]
      have e2 : stepR (f :: fs) (n - n, b) = if b = true then f.2.2 else 0 - f.2.2 := by simp [stepR]
      rw [e1, e2]
      constructor
      · rintro (h | h)
        · refine ⟨Nat.le_refl _, ?_⟩
          split at h
          · rename_i h1
            simp only [List.mem_singleton, Prod.mk.injEq] at h
            obtain ⟨-, rfl, rfl, rfl⟩ := h
            simp [h1]
          · split at h
            · rename_i h1 h2
              simp only [List.mem_singleton, Prod.mk.injEq] at h
              obtain ⟨-, rfl, rfl, rfl⟩ := h
              simp [h2]
            · simp at h
        · omega
      · rintro ⟨-, h1, rfl⟩
        left
        cases b with
        | true =>
          simp only [if_true] at h1
          split at h1
          · cases h1; rename_i h; simp [h]
          · cases h1
        | false =>
          simp only [Bool.false_eq_true, if_false] at h1 ⊢
          split at h1
          · rename_i h
            cases h1
            rw [if_neg (by rw [← h]; exact hne), if_pos h]
            simp
          · cases h1
    · have hg : ∀ m, n - k = m + 1 → stepTo (f :: fs) a (n - k, b) = stepTo fs a (m, b) ∧ stepR (f :: fs) (n - k, b) = stepR fs (m, b) := by
        intro m hm
        rw [hm]
        simp [stepTo, stepR]
      constructor
      · rintro (h | ⟨h1, h2, h3⟩)
        · exfalso
          split at h
          · simp at h; omega
          · split at h
            · simp at h; omega
            · simp at h
        · obtain ⟨e1, e2⟩ := hg (n - (k + 1)) (by omega)
          rw [e1, e2]
          exact ⟨by omega, h2, h3⟩
      · rintro ⟨h1, h2, h3⟩
        obtain ⟨e1, e2⟩ := hg (n - (k + 1)) (by omega)
        rw [e1] at h2
        rw [e2] at h3
        exact .inr ⟨by omega, h2, h3⟩
/-! ### what holds while marks are found -/
abbrev Rw := Int × List St
def Expl (sts : List (Nat × Bool × Int × Int)) (k j i : Nat) (s : St) : Prop := i < k ∨ (i = k ∧ ∃ t g r, t < j ∧ sts[t]? = some (s.1, s.2, g, r))
structure Bfs (fs : List F3) (one : Int) (R : List Rw) (k j : Nat) (sts : List (Nat × Bool × Int × Int)) : Prop where
  hd : R[0]? = some (one, [])
  way : ∀ (i : Nat) (x : Int) (p : List St), R[i]? = some (x, p) → IsWay fs one x p
  nd : ∀ (i i' : Nat) (x : Int) (p p' : List St), R[i]? = some (x, p) → R[i']? = some (x, p') → i = i'
  srt : ∀ (i i' : Nat) (x x' : Int) (p p' : List St), i < i' → R[i]? = some (x, p) → R[i']? = some (x', p') → pLt p p'
  src : ∀ (i : Nat) (x : Int) (p : List St), R[i]? = some (x, p) → i = 0 ∨ ∃ (i' : Nat) (s : St) (y : Int) (q : List St), R[i']? = some (y, q) ∧ Expl sts k j i' s ∧ p = q ++ [s]
  cls : ∀ (i : Nat) (s : St) (y : Int) (q : List St) (x : Int), R[i]? = some (y, q) → Expl sts k j i s → stepTo fs y s = some x → ∃ (i' : Nat) (p : List St), R[i']? = some (x, p)
theorem Bfs.start (fs : List F3) (one : Int) (sts : List (Nat × Bool × Int × Int)) : Bfs fs one [(one, [])] 0 0 sts := by
  have h1 : ∀ (i : Nat) (x : Int) (p : List St), [(one, ([] : List St))][i]? = some (x, p) → i = 0 ∧ x = one ∧ p = [] := by
    intro i x p h
    cases i with
    | zero => simp at h; exact ⟨rfl, h.1.symm, h.2⟩
    | succ i => simp at h
  refine ⟨rfl, fun i x p h => ?_, fun i i' x p p' h h' => ?_, fun i i' x x' p p' hi h h' => ?_, fun i x p h => .inl (h1 i x p h).1, fun i s y q x h e => ?_⟩
  · obtain ⟨rfl, rfl, rfl⟩ := h1 i x p h
    refine ⟨rfl, fun q hq => ?_⟩
    cases q with
    | nil => exact .inl rfl
    | cons s q => exact .inr (.inl (by simp))
  · rw [(h1 i x p h).1, (h1 i' x p' h').1]
  · have := (h1 i' x' p' h').1; omega
  · rcases e with e | ⟨_, t, g, r, e, _⟩ <;> omega
theorem getElem_app1 {α : Type} {R : List α} {y x : α} {i : Nat} (h : (R ++ [y])[i]? = some x) : R[i]? = some x ∨ (i = R.length ∧ x = y) := by
  by_cases hi : i < R.length
  · rw [List.getElem?_append_left hi] at h; exact .inl h
  · rw [List.getElem?_append_right (by omega)] at h
    cases hk : i - R.length with
    | zero => rw [hk] at h; simp at h; exact .inr ⟨by omega, h.symm⟩
    | succ n => rw [hk] at h; simp at h
theorem app1_old {α : Type} {R : List α} {y x : α} {i : Nat} (h : R[i]? = some x) : (R ++ [y])[i]? = some x := by
  have := (List.getElem?_eq_some_iff.mp h).1
  rw [List.getElem?_append_left this]; exact h
theorem Expl.mono {sts : List (Nat × Bool × Int × Int)} {k j i : Nat} {s : St} (h : Expl sts k j i s) : Expl sts k (j + 1) i s := by
  rcases h with h | ⟨h, t, g, r, h1, h2⟩
  · exact .inl h
  · exact .inr ⟨h, t, g, r, by omega, h2⟩
/-- a walk that leaves what is found is no shorter than by the row at work -/
theorem Bfs.far {fs : List F3} {one : Int} {R : List Rw} {k j : Nat} {sts : List (Nat × Bool × Int × Int)} (B : Bfs fs one R k j sts) {a : Int} {qk : List St} (hk : R[k]? = some (a, qk)) : ∀ (n : Nat) (q : List St) (u : Int), q.length = n → walk fs one q = some u → (¬ ∃ (i : Nat) (p : List St), R[i]? = some (u, p)) → qk.length + 1 ≤ q.length := by
  intro n
  induction n with
  | zero =>
    intro q u hq hw hu
    have : q = [] := List.length_eq_zero_iff.mp hq
    subst this
    cases hw
    exact (hu ⟨0, [], B.hd⟩).elim
  | succ n ih =>
    intro q u hq hw hu
    obtain ⟨q', s, rfl⟩ : ∃ q' s, q = q' ++ [s] := by
      have : q ≠ [] := by rintro rfl; simp at hq
      exact ⟨q.dropLast, q.getLast this, (List.dropLast_concat_getLast this).symm⟩
    rw [walk_snoc] at hw
    obtain ⟨w, h1, h2⟩ := Option.bind_eq_some_iff.mp hw
    by_cases hw' : ∃ (i : Nat) (p : List St), R[i]? = some (w, p)
    · obtain ⟨i, p, hi⟩ := hw'
      have hne : ¬ Expl sts k j i s := fun e => hu (B.cls i s w p u hi e h2)
      have hik : k ≤ i := by
        rcases Nat.lt_or_ge i k with h | h
        · exact (hne (.inl h)).elim
        · exact h
      have hp := pLe_len ((B.way i w p hi).2 q' h1)
      have hkp : qk.length ≤ p.length := by
        rcases Nat.lt_or_ge k i with h | h
        · exact pLe_len (.inr (B.srt k i _ _ _ _ h hk hi))
        · have : i = k := by omega
          subst this
          rw [hk] at hi
          cases hi
          exact Nat.le_refl _
      rw [List.length_append, List.length_singleton]
      omega
    · have := ih q' w (by simp at hq; exact hq) h1 hw'
      rw [List.length_append]
      omega
/-- one step more -/
theorem Bfs.step {fs : List F3} {one : Int} {R : List Rw} {k j : Nat} {a : Int} {qk : List St} (hl : NoLoop fs) (B : Bfs fs one R k j (stepsOf fs a 0)) (hk : R[k]? = some (a, qk)) {n : Nat} {b : Bool} {g r : Int} (hj : (stepsOf fs a 0)[j]? = some (n, b, g, r)) :
    ((∃ (i : Nat) (p : List St), R[i]? = some (g, p)) → Bfs fs one R k (j + 1) (stepsOf fs a 0)) ∧ ((¬ ∃ (i : Nat) (p : List St), R[i]? = some (g, p)) → Bfs fs one (R ++ [(g, qk ++ [(n, b)])]) k (j + 1) (stepsOf fs a 0)) := by
  have hmem := (stepsOf_mem fs a hl 0 n b g r).mp (List.mem_of_getElem? hj)
  rw [Nat.sub_zero] at hmem
  have hst := hmem.2.1
  have new : ∀ i s, Expl (stepsOf fs a 0) k (j + 1) i s → Expl (stepsOf fs a 0) k j i s ∨ (i = k ∧ s = (n, b)) := by
    rintro i s (h | ⟨h, t, g', r', h1, h2⟩)
    · exact .inl (.inl h)
    · rcases Nat.lt_or_ge t j with h3 | h3
      · exact .inl (.inr ⟨h, t, g', r', h3, h2⟩)
      · have : t = j := by omega
        subst this
        rw [hj] at h2
        simp only [Option.some.injEq, Prod.mk.injEq] at h2
        exact .inr ⟨h, Prod.ext h2.1.symm h2.2.1.symm⟩
  have later : ∀ (s : St) (x : Int), stepTo fs a s = some x → (∃ t g r, t < j ∧ (stepsOf fs a 0)[t]? = some (s.1, s.2, g, r)) ∨ s = (n, b) ∨ sLt (n, b) s := by
    intro s x hs
    have := (stepsOf_mem fs a hl 0 s.1 s.2 x _).mpr ⟨Nat.zero_le _, by rw [Nat.sub_zero]; exact hs, rfl⟩
    obtain ⟨t, ht, e⟩ := List.getElem_of_mem this
    have e' := List.getElem?_eq_getElem ht
    rw [e] at e'
    rcases Nat.lt_trichotomy t j with h | h | h
    · exact .inl ⟨t, _, _, h, e'⟩
    · subst h
      rw [e'] at hj
      simp only [Option.some.injEq, Prod.mk.injEq] at hj
      exact .inr (.inl (Prod.ext hj.1 hj.2.1))
    · have hjl := (List.getElem?_eq_some_iff.mp hj)
      obtain ⟨hj1, hj2⟩ := hjl
      have := List.pairwise_iff_getElem.mp (stepsOf_sorted fs a 0) j t hj1 ht h
      rw [hj2, e] at this
      exact .inr (.inr (.inl this))
  refine ⟨fun ⟨i0, p0, h0⟩ => ?_, fun hno => ?_⟩
  · refine ⟨B.hd, B.way, B.nd, B.srt, fun i x p h => ?_, fun i s y q x h e hs => ?_⟩
    · rcases B.src i x p h with z | ⟨i', s, y, q, z1, z2, z3⟩
      · exact .inl z
      · exact .inr ⟨i', s, y, q, z1, z2.mono, z3⟩
    · rcases new i s e with e | ⟨rfl, rfl⟩
      · exact B.cls i s y q x h e hs
      · rw [hk] at h
        cases h
        rw [hst] at hs
        cases hs
        exact ⟨i0, p0, h0⟩
  · have hkl := (List.getElem?_eq_some_iff.mp hk).1
    have bef : ∀ (i : Nat) (x : Int) (p : List St), R[i]? = some (x, p) → pLt p (qk ++ [(n, b)]) := by
      intro i x p h
      rcases B.src i x p h with z | ⟨i', s, y, q, z1, z2, rfl⟩
      · subst z
        rw [B.hd] at h
        cases h
        exact .inl (by simp)
      · rcases z2 with z2 | ⟨rfl, t, g', r', t1, t2⟩
        · exact pLt_snoc (B.srt i' k _ _ _ _ z2 z1 hk)
        · rw [hk] at z1
          cases z1
          refine pLt_same (.inl ?_)
          obtain ⟨hj1, hj2⟩ := List.getElem?_eq_some_iff.mp hj
          obtain ⟨ht1, ht2⟩ := List.getElem?_eq_some_iff.mp t2
          have := List.pairwise_iff_getElem.mp (stepsOf_sorted fs a 0) t j ht1 hj1 t1
          rw [hj2, ht2] at this
          exact this
    have hway : IsWay fs one g (qk ++ [(n, b)]) := by
      refine ⟨by rw [walk_snoc, (B.way k a qk hk).1]; exact hst, fun q hq => ?_⟩
      have hqn : q ≠ [] := by
        rintro rfl
        cases hq
        exact hno ⟨0, [], B.hd⟩
      obtain ⟨q', s, rfl⟩ : ∃ q' s, q = q' ++ [s] := ⟨q.dropLast, q.getLast hqn, (List.dropLast_concat_getLast hqn).symm⟩
      rw [walk_snoc] at hq
      obtain ⟨u, h1, h2⟩ := Option.bind_eq_some_iff.mp hq
      by_cases hu : ∃ (i : Nat) (p : List St), R[i]? = some (u, p)
      · obtain ⟨i, p, hi⟩ := hu
        have hne : ¬ Expl (stepsOf fs a 0) k j i s := fun e => hno (B.cls i s u p g hi e h2)
        have h3 := pLe_snoc (s := s) ((B.way i u p hi).2 q' h1)
        refine pLe_trans ?_ h3
        rcases Nat.lt_trichotomy i k with h | h | h
        · exact (hne (.inl h)).elim
        · subst h
          rw [hk] at hi
          cases hi
          rcases later s g h2 with ⟨t, g', r', t1, t2⟩ | rfl | h4
          · exact (hne (.inr ⟨rfl, t, g', r', t1, t2⟩)).elim
          · exact .inl rfl
          · exact .inr (pLt_same h4)
        · exact .inr (pLt_snoc (B.srt k i _ _ _ _ h hk hi))
      · have := B.far hk _ q' u rfl h1 hu
        exact .inr (.inl (by simp; omega))
    refine ⟨app1_old B.hd, fun i x p h => ?_, fun i i' x p p' h h' => ?_, fun i i' x x' p p' hi h h' => ?_, fun i x p h => ?_, fun i s y q x h e hs => ?_⟩
    · rcases getElem_app1 h with h | ⟨_, h⟩
      · exact B.way i x p h
      · cases h; exact hway
    · rcases getElem_app1 h with h | ⟨e1, h⟩ <;> rcases getElem_app1 h' with h' | ⟨e2, h'⟩
      · exact B.nd i i' x p p' h h'
      · cases h'; exact (hno ⟨i, p, h⟩).elim
      · cases h; exact (hno ⟨i', p', h'⟩).elim
      · omega
    · rcases getElem_app1 h with h | ⟨e1, h⟩ <;> rcases getElem_app1 h' with h' | ⟨e2, h'⟩
      · exact B.srt i i' x x' p p' hi h h'
      · cases h'; exact bef i x p h
      · have := (List.getElem?_eq_some_iff.mp h').1; omega
      · omega
    · rcases getElem_app1 h with h | ⟨e1, h⟩
      · rcases B.src i x p h with z | ⟨i', s, y, q, z1, z2, z3⟩
        · exact .inl z
        · exact .inr ⟨i', s, y, q, app1_old z1, z2.mono, z3⟩
      · cases h
        exact .inr ⟨k, (n, b), a, qk, app1_old hk, .inr ⟨rfl, j, g, r, by omega, hj⟩, rfl⟩
    · rcases getElem_app1 h with h | ⟨e1, h⟩
      · rcases new i s e with e | ⟨rfl, rfl⟩
        · obtain ⟨i', p, z⟩ := B.cls i s y q x h e hs
          exact ⟨i', p, app1_old z⟩
        · rw [hk] at h
          cases h
          rw [hst] at hs
          cases hs
          exact ⟨R.length, qk ++ [(n, b)], by rw [List.getElem?_append_right (Nat.le_refl _), Nat.sub_self]; rfl⟩
      · exfalso
        rcases e with e | ⟨e, _⟩ <;> omega
theorem Bfs.next {fs : List F3} {one : Int} {R : List Rw} {k : Nat} {a : Int} {qk : List St} (hl : NoLoop fs) (B : Bfs fs one R k (stepsOf fs a 0).length (stepsOf fs a 0)) (hk : R[k]? = some (a, qk)) (sts : List (Nat × Bool × Int × Int)) : Bfs fs one R (k + 1) 0 sts := by
  refine ⟨B.hd, B.way, B.nd, B.srt, fun i x p h => ?_, fun i s y q x h e hs => ?_⟩
  · rcases B.src i x p h with z | ⟨i', s, y, q, z1, z2, z3⟩
    · exact .inl z
    · refine .inr ⟨i', s, y, q, z1, .inl ?_, z3⟩
      rcases z2 with z2 | ⟨z2, _⟩ <;> omega
  · rcases e with e | ⟨_, t, g, r, e, _⟩
    · rcases Nat.lt_or_ge i k with h1 | h1
      · exact B.cls i s y q x h (.inl h1) hs
      · have : i = k := by omega
        subst this
        rw [hk] at h
        cases h
        have := (stepsOf_mem fs a hl 0 s.1 s.2 x _).mpr ⟨Nat.zero_le _, by rw [Nat.sub_zero]; exact hs, rfl⟩
        obtain ⟨t, ht, e1⟩ := List.getElem_of_mem this
        exact B.cls i s a qk x hk (.inr ⟨rfl, t, x, stepR fs (s.1 - 0, s.2), ht, (List.getElem?_eq_getElem ht).trans (congrArg some e1)⟩) hs
    · omega
theorem Bfs.done {fs : List F3} {one : Int} {R : List Rw} {k : Nat} {sts : List (Nat × Bool × Int × Int)} (B : Bfs fs one R k 0 sts) (hk : R.length ≤ k) : ∀ (p : List St) (x : Int), walk fs one p = some x → ∃ (i : Nat) (q : List St), R[i]? = some (x, q) := by
  intro p
  have : ∀ (n : Nat) (p : List St) (x : Int), p.length = n → walk fs one p = some x → ∃ (i : Nat) (q : List St), R[i]? = some (x, q) := by
    intro n
    induction n with
    | zero =>
      intro p x hp hw
      have : p = [] := List.length_eq_zero_iff.mp hp
      subst this
      cases hw
      exact ⟨0, [], B.hd⟩
    | succ n ih =>
      intro p x hp hw
      have hn : p ≠ [] := by rintro rfl; simp at hp
      obtain ⟨q', s, rfl⟩ : ∃ q' s, p = q' ++ [s] := ⟨p.dropLast, p.getLast hn, (List.dropLast_concat_getLast hn).symm⟩
      rw [walk_snoc] at hw
      obtain ⟨u, h1, h2⟩ := Option.bind_eq_some_iff.mp hw
      obtain ⟨i, q, hi⟩ := ih q' u (by simp at hp; exact hp) h1
      have := (List.getElem?_eq_some_iff.mp hi).1
      exact B.cls i s u q x hi (.inl (by omega)) h2
  exact fun x => this _ p x rfl
end Z

end
section
namespace Z
open PySem L2
def b_steps_from : SM :=
    sSeq (sSet 2 (mNewL []))
    (sSeq (sFor (.tp [.nm 3, .tp [.nm 4, .nm 5, .nm 6]]) (iEnumM (mP2 idxP (mVar 0) (mC (.int 2)))) (sIf (tB (mP2 eqP (mVar 4) (mVar 1))) (sExpr (mMeth appV (mVar 2) (mTup [mVar 3, mC (.bl true), mVar 5, mVar 6]))) (sIf (tB (mP2 eqP (mVar 5) (mVar 1))) (sExpr (mMeth appV (mVar 2) (mTup [mVar 3, mC (.bl false), mVar 4, mP2 subP (mC (.int 0)) (mVar 6)]))) (sPass))) [3, 4, 5, 6])
    (sRet (mMv 2)))
def f_steps_from : Fn := runF 7 (b_steps_from)
def b_way : SM :=
    sSeq (sSet 3 (mNewL [mTup [mVar 1, mTup []]]))
    (sSeq (sSet 4 (mDisp1 (mVar 1) (mC (.bl true))))
    (sSeq (sSet 5 (mC (.int 0)))
    (sSeq (sWhile 1000000 (tB (mP2 ltP (mVar 5) (mPn lenP [mVar 3]))) (sSeq (sAsg (.tp [.nm 6, .nm 7]) (mP2 idxP (mVar 3) (mVar 5)))
      (sSeq (sIf (tB (mP2 eqP (mVar 6) (mVar 2))) (sRet (mVar 7)) (sPass))
      (sSeq (sFor (.tp [.nm 8, .nm 9, .nm 10, .nm 11]) (iSeq (mPn sortedP [mCall f_steps_from [mVar 0, mVar 6]])) (sIf (tB (mP2 notInDP (mVar 10) (mVar 4))) (sSeq (mPut (mVar 4) (mVar 10) (mC (.bl true)))
          (sExpr (mMeth appV (mVar 3) (mTup [mVar 10, mP2 addP (mVar 7) (mTup [mTup [mVar 8, mVar 9]])])))) (sPass)) [8, 9, 10, 11])
      (sSet 5 (mP2 addP (mVar 5) (mC (.int 1))))))) [6, 7, 8, 9, 10, 11])
    (sRet (mC .non)))))
def f_way : Fn := runF 12 (b_way)
end Z

end
section
namespace Z
open PySem L2
local macro_rules | `(tactic| tbr_iter [$ts,*]) => `(tactic| simp (disch := first | assumption | omega | decide | (simp only [List.length_map, List.length_cons, List.length_nil, List.length_append, List.length_range, List.length_take, List.length_drop]; omega)) only [ev_var0s, ev_varS, ev_c, dr_p, dr_0, dr_S, pu_pl, pu_pd, pu_pdT, retO_s, ev_mv, fMv_ref, fMvx_s, ev_p1, fP1_ok, fP1d_s, ev_p2, fP2a_ok, fP2a_exc, fP2b_ok, fP2b_exc, fP2c_s, evs_nil, evs_cons, fEa_ok, fEa_exc, fEb_ok, fEb_exc, drs_nil, drs_cons, fDc_s, ev_pn, fPn_ok, fPn_exc, fPd_s, purs_nil, purs_cons, ev_tup, fTup_ok, fTup_exc, fTd_s, ev_lst, fLst_ok, fLst_exc, fLd_s, ev_newL, fNewL_ok, fNewL_exc, fNd_s, ev_newD, ev_and, fAnd_t, fAnd_f, fAnd_exc, ev_or, fOr_t, fOr_f, fOr_exc, ev_not, fNot_b, fNot_exc, ev_if, fIf_t, fIf_f, fIf_exc, ev_tB, ftB_b, ftB_exc, ev_tTr, ftT_ok, ftT_exc, ftTd_s, tr_non, tr_bl, tr_int, tr_tup, tr_lst, tr_0, tr_S, otr_pl, ev_tand, ftAnd_t, ftAnd_f, ftAnd_exc, ev_tor, ftOr_t, ftOr_f, ftOr_exc, ev_tnot, ftNot_b, ftNot_exc, ev_tyes, ev_sl, fSa_ok, fSa_exc, fSb_ok, fSc_ok, fSd_s, evO_n, evO_s, fO_i, ev_ch, fCa_ok, fCb_ok, fCc_t, fCc_f, ev_call, fCall_ok, fCall_exc, fRp_ok, fRp_exc, cv_1, cv_2, cv_3, cv_4, cv_5, fRt_ok, ev_lc, it_seq, fSeq_t, fSeq_l, it_en, fEn_t, fEn_l, it_r1, fR1_ok, it_r2, fR2a_ok, fR2b_ok, it_z, fZa_ok, fZb_t, fZb_l, ev_me, fMa_ok, fMb_t, fMc_ok, fMc_exc, la_0, la_r0, la_S, fPush_s, app_S, ext_S, W_seq, W_pass, Wn_cons, Wn_nil, W_set, wSet_ok, wSet_exc, W_expr, wEx_ok, wEx_exc, W_ret, wRet_ok, wRet_exc, W_if, wIf_t, wIf_f, wIf_exc, W_brk, W_cont, W_raise, W_asg, wAsg_ok, wAsg_exc, wA_s, asg_nm, asg_tp, asg_tpl, asgs_nil, asgs_cons, fAs_s, W_par2, wPa_ok, wPa_exc, wPb_ok, wPb_exc, clr_nil, clr_cons, W_for, wFor_ok, wFor_exc, IQ_nx, IQ_ct, IQ_bk, IQ_rt, IQ_ex, wB_s, lcE1_s, lcE2_t, lcE2_f, lcE3_s, fLm_s, fLt_s, fLc_ok, o_mod, o_fdiv, o_mulR, o_mulL, o_addT, o_addL, o_sumT, o_sumL, o_app, o_ext, cut_map, cut_0j, cut_i, atI_map, atI_i, all_b, any_b, is_t, is_tl, is_ti, is_tb, is_tn, is_ts, is_i, is_ib, is_it, is_il, is_in, is_is, is_b, is_bi, is_bt, is_bl, is_bn, is_bs, tk_map, dp_map, app_map, neP_nn, neP_in, neP_ni, eqP_nn, eqP_in, eqP_ni, neP_bb, eqP_bb, ssm_fold, in_bl, ev_ixo, fIxa_ok, fIxb_bl, fIxc_s, addP_i, subP_i, negP_i, ltP_i, leP_i, gtP_i, geP_i, isP_n, isP_i, isP_b, isP_t, isP_l, isP_s, isNotP_n, isNotP_i, isNotP_b, isNotP_t, isNotP_l, isNotP_s, isP_bb, isNotP_bb, idxP_t, idxP_l, atI_0, atI_1, atI_2, sliceP_t, sliceP_l, lenP_t, lenP_l, lenP_f, tupleP_t, tupleP_l, listP_t, listP_l, minP_i, maxP_i, intP_i, intP_b, eqP_int, neP_int, List.set_cons_zero, List.set_cons_succ, List.length_cons, List.length_nil, List.map_cons, List.map_nil, List.length_map, List.cons_append, List.nil_append, List.append_nil, Option.map_some, Int.toNat_natCast, Int.reduceToNat, List.getElem?_map, List.getElem?_cons_zero, List.getElem?_cons_succ, List.replicate_zero, List.replicate_succ, Nat.sub_self, Nat.reduceSub, Nat.reduceAdd, Bool.not_true, Bool.not_false, List.take_zero, List.take_succ_cons, and_true, true_and, decide_true, decide_false, Int.cast_ofNat_Int, Int.reduceEq, Int.reduceNe, Int.reduceLT, Int.reduceLE, $[$ts:term],*])
section
variable {env : Env} {S S1 S2 S3 : List O} {v u : Val} {x y z : P} {c : Str} {ks : List SM} {Q : FQ}
/-! {k: v} -/
def dS : Nat → Int → P → List O → Option (List O)
  | 0, i, x, .pd [] :: S => some (.pd [(.inl i, x)] :: S)
  | n + 1, i, x, o :: S => (dS n i x S).map (o :: ·)
  | _, _, _, _ => none
theorem dS_0 {i : Int} : dS 0 i x (.pd [] :: S) = some (.pd [(.inl i, x)] :: S) := id rfl
theorem dS_S {n : Nat} {i : Int} {o : O} : dS (n + 1) i x (o :: S) = (dS n i x S).map (o :: ·) := id rfl
theorem dS_ok : ∀ (n : Nat) (i : Int) (S S' : List O), dS n i x S = some S' → S[n]? = some (.pd []) ∧ S.set n (.pd [(.inl i, x)]) = S'
  | 0, i, .pd [] :: S, S', h => by cases h; exact ⟨rfl, rfl⟩
  | n + 1, i, o :: S, S', h => by
    rw [dS_S] at h
    obtain ⟨T, h1, rfl⟩ := Option.map_eq_some_iff.mp h
    obtain ⟨h2, h3⟩ := dS_ok n i S T h1
    exact ⟨by rw [List.getElem?_cons_succ]; exact h2, by rw [List.set_cons_succ, h3]⟩
  | _, _, [], _, h => by rename_i n _ _; cases n <;> cases h
  | 0, _, .gone :: _, _, h => by cases h
  | 0, _, .pl _ :: _, _, h => by cases h
  | 0, _, .rl _ :: _, _, h => by cases h
  | 0, _, .pdT _ :: _, _, h => by cases h
  | 0, _, .pd (_ :: _) :: _, _, h => by cases h
def fDe (n : Nat) (o : Option (List O)) : Out Val := o.bind fun S => some (.ok (.ref n), S)
theorem fDe_s {n : Nat} : fDe n (some S) = some (.ok (.ref n), S) := id rfl
theorem ev_disp1 {mk mv : EM} {i : Int} {S' : List O} (h1 : mk env (S ++ [.pd []]) = some (.ok (.p (.int i)), S ++ [.pd []])) (h2 : mv env (S ++ [.pd []]) = some (.ok (.p x), S ++ [.pd []])) (h3 : dS S.length i x (S ++ [.pd []]) = some S') : mDisp1 mk mv env S = some (.ok (.ref S.length), S') := by
  obtain ⟨a, b⟩ := dS_ok _ _ _ _ h3
  unfold mDisp1
  rw [h1, bnd_ok, h2, bnd_ok, a]
  simp only [keyOf, Option.bind_some, b]
/-! d[k] = v -/
def putS : Nat → Int → P → List O → Option (List O)
  | 0, i, x, .pd kvs :: S => if kvs.length < sizeLine then some (.pd (putP kvs (.inl i) x) :: S) else none
  | n + 1, i, x, o :: S => (putS n i x S).map (o :: ·)
  | _, _, _, _ => none
theorem putS_0 {i : Int} {kvs : List (Key × P)} (h : kvs.length < 1000000) : putS 0 i x (.pd kvs :: S) = some (.pd (putP kvs (.inl i) x) :: S) := if_pos (sz' h)
theorem putS_S {n : Nat} {i : Int} {o : O} : putS (n + 1) i x (o :: S) = (putS n i x S).map (o :: ·) := id rfl
theorem putS_ok : ∀ (n : Nat) (i : Int) (S S' : List O), putS n i x S = some S' → ∃ kvs, S[n]? = some (.pd kvs) ∧ kvs.length < sizeLine ∧ S.set n (.pd (putP kvs (.inl i) x)) = S'
  | 0, i, .pd kvs :: S, S', h => by
    have h : (if kvs.length < sizeLine then some (.pd (putP kvs (.inl i) x) :: S) else none) = some S' := h
    split at h
    · cases h; exact ⟨kvs, rfl, by assumption, rfl⟩
    · cases h
  | n + 1, i, o :: S, S', h => by
    rw [putS_S] at h
    obtain ⟨T, h1, rfl⟩ := Option.map_eq_some_iff.mp h
    obtain ⟨kvs, h2, h3, h4⟩ := putS_ok n i S T h1
    exact ⟨kvs, by rw [List.getElem?_cons_succ]; exact h2, h3, by rw [List.set_cons_succ, h4]⟩
  | _, _, [], _, h => by rename_i n _ _; cases n <;> cases h
  | 0, _, .gone :: _, _, h => by cases h
  | 0, _, .pl _ :: _, _, h => by cases h
  | 0, _, .rl _ :: _, _, h => by cases h
  | 0, _, .pdT _ :: _, _, h => by cases h
theorem W_put {o i e : EM} {r : Nat} {k : Int} (h1 : e env S = some (.ok (.p x), S)) (h2 : o env S = some (.ok (.ref r), S)) (h3 : i env S = some (.ok (.p (.int k)), S)) {S' : List O} (h4 : putS r k x S = some S') : W (mPut o i e) ks Q env S = Wn ks Q env S' := by
  obtain ⟨kvs, a, b, e4⟩ := putS_ok _ _ _ _ h4
  unfold W mPut Wn
  rw [h1, stm_ok, h2, stm_ok, h3, stm_ok]
  simp only [a, keyOf, Option.bind_some, b, if_true, e4]
/-! while -/
def wWh (b : SM) (cl : List Nat) (I : Env → List O → Prop) (ks : List SM) (Q : FQ) (env : Env) (o : Out Bool) : Prop := match o with
  | some (.ok c, S1) => (c = true → W b [] (IQ cl I ks Q) env S1) ∧ (c = false → Wn ks Q env S1)
  | some (.exc c, S1) => Q (.ex c env) S1
  | none => False
theorem wWh_c {b : SM} {cl : List Nat} {I : Env → List O → Prop} {c : Bool} : wWh b cl I ks Q env (some (.ok c, S)) = ((c = true → W b [] (IQ cl I ks Q) env S) ∧ (c = false → Wn ks Q env S)) := id rfl
theorem W_while {σ : Type} {t : TM} {b : SM} {cl : List Nat} (N : Nat) (E : σ → Env) (T : σ → List O) (J : σ → Prop) (μ : σ → Nat) (s0 : σ) (hN : μ s0 < N) (he : env = E s0) (hS : S = T s0) (h0 : J s0)
    (hs : ∀ s, J s → wWh b cl (fun e S' => ∃ s', e = E s' ∧ S' = T s' ∧ J s' ∧ μ s' < μ s) ks Q (E s) (t (E s) (T s))) : W (sWhile N t b cl) ks Q env S := by
  rw [he, hS]
  clear he hS
  induction N generalizing s0 with
  | zero => omega
  | succ N ih =>
    have h := hs s0 h0
    show Wr ks Q (stm (E s0) (t (E s0) (T s0)) fun c S1 => if c = true then
      match b (E s0) S1 with
      | some (.nx e', S') => whL t b cl N (clr cl e') S'
      | some (.ct e', S') => whL t b cl N (clr cl e') S'
      | some (.bk e', S') => some (.nx e', S')
      | r => r
      else some (.nx (E s0), S1))
    cases ht : t (E s0) (T s0) with
    | none => rw [ht] at h; exact h.elim
    | some r =>
      obtain ⟨r, S1⟩ := r
      rw [ht] at h
      cases r with
      | exc c => rw [stm_exc, Wr_ex]; exact h
      | ok c =>
        rw [stm_ok]
        cases c with
        | false => rw [if_neg Bool.false_ne_true]; exact h.2 rfl
        | true =>
          rw [if_pos rfl]
          have h1 := h.1 rfl
          unfold W at h1
          have nxt : ∀ e' S', (∃ s', clr cl e' = E s' ∧ S' = T s' ∧ J s' ∧ μ s' < μ s0) → Wr ks Q (whL t b cl N (clr cl e') S') := by
            rintro e' S' ⟨s', a1, a2, a3, a4⟩
            rw [a1, a2]
            exact ih s' (by omega) a3
          cases hb : b (E s0) S1 with
          | none => rw [hb] at h1; exact h1.elim
          | some q =>
            obtain ⟨f, S2⟩ := q
            rw [hb] at h1
            cases f with
            | nx e' => exact nxt e' S2 h1
            | ct e' => exact nxt e' S2 h1
            | bk e' => exact h1
            | rt v => exact Wr_rt.mpr h1
            | ex c e' => exact Wr_ex.mpr h1
end
/-! dicts of whole numbers -/
theorem val_key {α : Type} (f : α → Int) (w : α → P) (k : Int) : ∀ xs : List α, (valP (xs.map fun x => (Sum.inl (f x), w x)) (.inl k)).isSome = xs.any fun x => decide (f x = k)
  | [] => rfl
  | x :: xs => by
    unfold valP
    rw [List.map_cons, List.find?_cons]
    by_cases h : f x = k
    · subst h; simp
    · have : decide ((Sum.inl (f x) : Key) = Sum.inl k) = false := decide_eq_false fun e => h (Sum.inl.inj e)
      rw [this]
      have ih := val_key f w k xs
      unfold valP at ih
      rw [List.any_cons, decide_eq_false h, Bool.false_or, ← ih]
theorem notIn_key {α : Type} (f : α → Int) (w : α → P) (k : Int) (xs : List α) : notInDP (.int k) (.dct (xs.map fun x => (Sum.inl (f x), w x))) = some (.bl (!xs.any fun x => decide (f x = k))) := by
  rw [notInDP_d]
  simp only [keyOf, Option.bind_some, val_key]
theorem in_key {α : Type} (f : α → Int) (w : α → P) (k : Int) (xs : List α) : inDP (.int k) (.dct (xs.map fun x => (Sum.inl (f x), w x))) = some (.bl (xs.any fun x => decide (f x = k))) := by
  rw [inDP_d]
  simp only [keyOf, Option.bind_some, val_key]
theorem putP_new {α : Type} (f : α → Int) (w : α → P) (k : Int) (v : P) (xs : List α) (h : (xs.any fun x => decide (f x = k)) = false) : putP (xs.map fun x => (Sum.inl (f x), w x)) (.inl k) v = (xs.map fun x => (Sum.inl (f x), w x)) ++ [(.inl k, v)] := by
  unfold putP
  rw [if_neg]
  rw [List.any_map]
  intro h2
  rw [List.any_eq_true] at h2
  obtain ⟨x, hx, h3⟩ := h2
  rw [List.any_eq_false] at h
  have h4 := of_decide_eq_true h3
  exact h x hx (decide_eq_true (Sum.inl.inj h4))
/-! sorted lists -/
theorem sorted_id (xs : List P) (h : sortOk xs = true) (hp : xs.Pairwise fun a b => PySem.W.dataLe false P.py a b = true) : sortedP [.lst xs] = some (.lst xs) := by
  show (if sortOk xs = true then some (P.lst (xs.mergeSort (PySem.W.dataLe false P.py))) else none) = _
  rw [if_pos h, List.mergeSort_of_pairwise hp]
abbrev q4P (q : Nat × Bool × Int × Int) : P := .tup [.int (q.1 : Int), .bl q.2.1, .int q.2.2.1, .int q.2.2.2]
theorem q4_le {a b : Nat × Bool × Int × Int} (h : a.1 < b.1) : PySem.W.dataLe false P.py (q4P a) (q4P b) = true := by
  unfold PySem.W.dataLe PySem.W.sortLe
  simp only [cond_false, P.py, pys, PySem.W.keyToks, PySem.W.keyToksAll]
  show (!PyProof.Rows.lexLt PyProof.Rows.itemOrd _ _) = true
  simp only [List.cons_append, List.nil_append]
  rw [PyProof.Rows.lex_self, PyProof.Rows.lex_diff (by intro e; have := Sum.inl.inj e; omega)]
  show (!decide ((b.1 : Int) < (a.1 : Int))) = true
  rw [decide_eq_false (by omega)]
  rfl
theorem q4_ok (xs : List (Nat × Bool × Int × Int)) (h : xs.length ≤ 1000000) : sortOk (xs.map q4P) = true := by
  unfold sortOk
  have h1 : lays 15 (xs.map q4P) = true := by
    clear h
    induction xs with
    | nil => rfl
    | cons x xs ih => rw [List.map_cons, lays, ih]; rfl
  rw [h1, List.map_map]
  have h2 : ((xs.map (P.py ∘ q4P)).all fun d => (xs.map (P.py ∘ q4P)).all fun e => PySem.W.alike d e) = true := by
    rw [List.all_map, List.all_eq_true]
    intro x _
    rw [Function.comp, List.all_map, List.all_eq_true]
    intro y _
    simp [P.py, pys, PySem.W.alike, PySem.W.alikeAll]
  have h3 : (xs.map (P.py ∘ q4P)).all tup1B = true := by
    rw [List.all_map, List.all_eq_true]
    intro x _
    rfl
  rw [h2, h3]
  simp [h]

/-! ### steps_from, way -/
theorem stepsOf_snoc (a : Int) (f : F3) : ∀ (fs : List F3) (k : Nat), stepsOf (fs ++ [f]) a k = stepsOf fs a k ++ (if f.1 = a then [(k + fs.length, true, f.2.1, f.2.2)] else if f.2.1 = a then [(k + fs.length, false, f.1, 0 - f.2.2)] else [])
  | [], k => by rw [List.nil_append, stepsOf_cons, stepsOf_nil, List.append_nil, stepsOf_nil, List.nil_append]; rfl
  | g :: fs, k => by
    rw [List.cons_append, stepsOf_cons, stepsOf_snoc a f fs (k + 1), stepsOf_cons, List.append_assoc, List.length_cons]
    simp only [show k + 1 + fs.length = k + (fs.length + 1) by omega]
theorem stepsOf_len (a : Int) : ∀ (fs : List F3) (k : Nat), (stepsOf fs a k).length ≤ fs.length
  | [], k => Nat.le_refl _
  | f :: fs, k => by
    rw [stepsOf_cons, List.length_append, List.length_cons]
    have := stepsOf_len a fs (k + 1)
    split
    · simp; omega
    · split
      · simp; omega
      · simp; omega
theorem take_snoc {α : Type} {xs : List α} {i : Nat} {x : α} (h : xs[i]? = some x) : xs.take (i + 1) = xs.take i ++ [x] := by
  rw [List.take_succ, h]; rfl
theorem steps_eq (l m : Int) (fs : List F3) (a : Int) (hf : fs.length ≤ 1000) : f_steps_from [.p (sP l m fs), .p (.int a)] [] = some (.ok (.p (.lst ((stepsOf fs a 0).map q4P))), []) := by
  refine fn_W (k := 7) ?_ rfl
  unfold b_steps_from
  tbr_iter []
  refine W_enum (σ := List (Nat × Bool × Int × Int)) fs fP (fun _ => [some (.p (sP l m fs)), some (.p (.int a)), some (.ref 0), none, none, none, none]) (fun s => [.pl (s.map q4P)]) (fun i s => s = stepsOf (fs.take i) a 0) [] rfl rfl rfl ?_ ?_
  · rintro i f s hf' rfl
    have hlen := stepsOf_len a (fs.take i) 0
    rw [List.length_take] at hlen
    have hi := (List.getElem?_eq_some_iff.mp hf').1
    have hsn := stepsOf_snoc a f (fs.take i) 0
    rw [List.length_take, Nat.min_eq_left (by omega), Nat.zero_add] at hsn
    tbr_iter []
    rw [wIf_c]
    refine ⟨fun h => ?_, fun h => ?_⟩
    · have h := of_decide_eq_true h
      tbr_iter []
      refine ⟨stepsOf (fs.take i) a 0 ++ [(i, true, f.2.1, f.2.2)], by simp, ?_⟩
      rw [take_snoc hf', hsn, if_pos h]
    · have h := of_decide_eq_false h
      tbr_iter []
      rw [wIf_c]
      refine ⟨fun h2 => ?_, fun h2 => ?_⟩
      · have h2 := of_decide_eq_true h2
        tbr_iter []
        refine ⟨stepsOf (fs.take i) a 0 ++ [(i, false, f.1, 0 - f.2.2)], by simp, ?_⟩
        rw [take_snoc hf', hsn, if_neg h, if_pos h2]
      · have h2 := of_decide_eq_false h2
        tbr_iter []
        refine ⟨stepsOf (fs.take i) a 0, rfl, ?_⟩
        rw [take_snoc hf', hsn, if_neg h, if_neg h2, List.append_nil]
  · rintro s rfl
    rw [List.take_length]
    tbr_iter []
theorem nodup_len : ∀ (xs ys : List Int), xs.Nodup → (∀ x ∈ xs, x ∈ ys) → xs.length ≤ ys.length
  | [], _, _, _ => Nat.zero_le _
  | x :: xs, ys, hn, hs => by
    have hx := hs x (by simp)
    rw [List.nodup_cons] at hn
    have := nodup_len xs (ys.erase x) hn.2 fun z hz => (List.mem_erase_of_ne (by rintro rfl; exact hn.1 hz)).mpr (hs z (by simp [hz]))
    rw [List.length_erase_of_mem hx] at this
    have := List.length_pos_of_mem hx
    rw [List.length_cons]
    omega
theorem Bfs.len {fs : List F3} {one : Int} {R : List Rw} {k j : Nat} {sts : List (Nat × Bool × Int × Int)} (B : Bfs fs one R k j sts) (l : Int) (h : ∀ r ∈ R, 0 ≤ r.1 ∧ r.1 ≤ l) : R.length ≤ (l + 1).toNat := by
  have := nodup_len (R.map Prod.fst) ((List.range (l + 1).toNat).map fun n : Nat => (n : Int)) (by
    rw [List.Nodup, List.pairwise_iff_getElem]
    intro i j hi hj hij e
    rw [List.getElem_map, List.getElem_map] at e
    rw [List.length_map] at hi hj
    have h1 : R[i]? = some (R[i].1, R[i].2) := List.getElem?_eq_getElem hi
    have h2 : R[j]? = some (R[i].1, R[j].2) := by rw [e]; exact List.getElem?_eq_getElem hj
    have := B.nd i j _ _ _ h1 h2
    omega) (by
    intro x hx
    obtain ⟨r, hr, rfl⟩ := List.mem_map.mp hx
    obtain ⟨h1, h2⟩ := h r hr
    exact List.mem_map.mpr ⟨r.1.toNat, List.mem_range.mpr (by omega), by omega⟩)
  simpa using this
theorem Bfs.plen {fs : List F3} {one : Int} {R : List Rw} {k j : Nat} {sts : List (Nat × Bool × Int × Int)} (B : Bfs fs one R k j sts) : ∀ (n i : Nat) (x : Int) (p : List St), p.length = n → R[i]? = some (x, p) → p.length ≤ i := by
  intro n
  induction n with
  | zero => intro i x p hp _; omega
  | succ n ih =>
    intro i x p hp h
    rcases B.src i x p h with rfl | ⟨i', s, y, q, h1, _, rfl⟩
    · rw [B.hd] at h
      cases h
      simp at hp
    · have hq := ih i' y q (by simpa using hp) h1
      have hlt : i' < i := by
        rcases Nat.lt_trichotomy i' i with z | z | z
        · exact z
        · subst z
          rw [h1] at h
          have := congrArg (fun o => (o.map fun r : Rw => r.2.length)) h
          simp at this
        · have := B.srt i i' _ _ _ _ z h h1
          rcases this with z | ⟨z, _⟩
          · simp at z; omega
          · simp at z
      rw [List.length_append, List.length_singleton]
      omega
abbrev stP (s : St) : P := .tup [.int (s.1 : Int), .bl s.2]
abbrev stsP (p : List St) : P := .tup (p.map stP)
abbrev optS : Option (List St) → P
  | none => .non
  | some p => stsP p
abbrev rwP (r : Rw) : P := .tup [.int r.1, stsP r.2]
theorem any_mark {R : List Rw} {g : Int} : (R.any fun x => decide (x.1 = g)) = true ↔ ∃ (i : Nat) (p : List St), R[i]? = some (g, p) := by
  rw [List.any_eq_true]
  constructor
  · rintro ⟨r, hr, h⟩
    obtain ⟨i, hi, e⟩ := List.getElem_of_mem hr
    refine ⟨i, r.2, ?_⟩
    rw [List.getElem?_eq_getElem hi, e, ← of_decide_eq_true h]
  · rintro ⟨i, p, h⟩
    exact ⟨_, List.mem_of_getElem? h, decide_eq_true rfl⟩
theorem stepTo_rng {l m : Int} {fs : List F3} (hg : Gd l m fs) {a b : Int} {s : St} (h : stepTo fs a s = some b) : 0 ≤ a ∧ a ≤ l ∧ 0 ≤ b ∧ b ≤ l := by
  unfold stepTo at h
  split at h
  · rename_i f hf
    have := hg f (List.mem_of_getElem? hf)
    split at h
    · split at h
      · cases h; omega
      · cases h
    · split at h
      · cases h; omega
      · cases h
  · cases h
theorem way_len {l m : Int} {fs : List F3} (hg : Gd l m fs) {a : Int} (h0 : 0 ≤ a) (h1 : a ≤ l) : ∀ (p : List St) (b : Int), walk fs a p = some b → 0 ≤ b ∧ b ≤ l
  | [], b, h => by cases h; exact ⟨h0, h1⟩
  | s :: p, b, h => by
    rw [walk_cons] at h
    obtain ⟨c, h2, h3⟩ := Option.bind_eq_some_iff.mp h
    have := stepTo_rng hg h2
    exact way_len hg this.2.2.1 this.2.2.2 p b h3

theorem way_eqL (l m : Int) (fs : List F3) (a b : Int) (hg : Gd l m fs) (hf : fs.length ≤ 1000) (hl : l ≤ 1000) (h0 : 0 ≤ a) (h1 : a ≤ l) :
    ∃ r, WayRes fs a b r ∧ (∀ p, r = some p → p.length ≤ l.toNat) ∧ f_way [.p (sP l m fs), .p (.int a), .p (.int b)] [] = some (.ok (.p (optS r)), []) := by
  have hnl := hg.noLoop
  have key : ∃ x S1, f_way [.p (sP l m fs), .p (.int a), .p (.int b)] [] = some (.ok (.p x), S1) ∧ ∃ r, x = optS r ∧ S1 = [] ∧ WayRes fs a b r ∧ ∀ p, r = some p → p.length ≤ l.toNat := by
    refine fn_Wx (k := 12) ?_ (by rintro x S1 ⟨r, rfl, rfl, _⟩; rfl)
    unfold b_way
    tbr_iter []
    rw [ev_disp1 (S := [.pl [.tup [.int a, .tup []]]]) (i := a) (x := .bl true) (S' := [.pl [.tup [.int a, .tup []]], .pd [(.inl a, .bl true)]]) (by tbr_iter []) (by tbr_iter []) (by rfl)]
    tbr_iter []
    refine W_while (σ := List Rw × Nat) 1000000 (fun s => [some (.p (sP l m fs)), some (.p (.int a)), some (.p (.int b)), some (.ref 0), some (.ref 1), some (.p (.int s.2)), none, none, none, none, none, none]) (fun s => [.pl (s.1.map rwP), .pd (s.1.map fun r => (.inl r.1, .bl true))]) (fun s => Bfs fs a s.1 s.2 0 [] ∧ s.2 ≤ s.1.length ∧ (∀ (i : Nat) (p : List St), i < s.2 → s.1[i]? ≠ some (b, p)) ∧ ∀ r ∈ s.1, 0 ≤ r.1 ∧ r.1 ≤ l) (fun s => (l + 2).toNat - s.2) ([(a, [])], 0) (by simp only; omega) rfl rfl ⟨Bfs.start fs a [], by simp, by simp, by simp; omega⟩ ?_
    rintro ⟨R, k⟩ ⟨B, hk, hno, hr⟩
    simp only at B hk hno hr
    have hlen := B.len l hr
    tbr_iter []
    rw [wWh_c]
    refine ⟨fun h => ?_, fun h => ?_⟩
    · have h := of_decide_eq_true h
      have hkl : k < R.length := by omega
      obtain ⟨mk, q, hRk⟩ : ∃ mk q, R[k]? = some (mk, q) := ⟨R[k].1, R[k].2, List.getElem?_eq_getElem hkl⟩
      tbr_iter [hRk]
      rw [wIf_c]
      refine ⟨fun h2 => ?_, fun h2 => ?_⟩
      · have h2 := of_decide_eq_true h2
        subst h2
        tbr_iter []
        exact ⟨_, rfl, some q, rfl, B.way k _ q hRk, fun p hp => by cases hp; have := B.plen _ k _ q rfl hRk; omega⟩
      · have h2 := of_decide_eq_false h2
        have hso : sortedP [.lst ((stepsOf fs mk 0).map q4P)] = some (.lst ((stepsOf fs mk 0).map q4P)) := by
          refine sorted_id _ (q4_ok _ (by have := stepsOf_len mk fs 0; omega)) ?_
          rw [List.pairwise_map]
          exact (stepsOf_sorted fs mk 0).imp fun h => q4_le h
        tbr_iter [steps_eq l m fs mk hf, hso]
        have B0 : Bfs fs a R k 0 (stepsOf fs mk 0) := ⟨B.hd, B.way, B.nd, B.srt, fun i x p h => by
          rcases B.src i x p h with z | ⟨i', s, y, q, z1, z2, z3⟩
          · exact .inl z
          · refine .inr ⟨i', s, y, q, z1, .inl ?_, z3⟩
            rcases z2 with z2 | ⟨_, t, g, r, z2, _⟩ <;> omega, fun i s y q x h e hs => by
          rcases e with e | ⟨_, t, g, r, e, _⟩
          · exact B.cls i s y q x h (.inl e) hs
          · omega⟩
        refine W_inv (σ := List Rw) (stepsOf fs mk 0) q4P (fun _ => [some (.p (sP l m fs)), some (.p (.int a)), some (.p (.int b)), some (.ref 0), some (.ref 1), some (.p (.int k)), some (.p (.int mk)), some (.p (stsP q)), none, none, none, none]) (fun R' => [.pl (R'.map rwP), .pd (R'.map fun r => (.inl r.1, .bl true))]) (fun j R' => Bfs fs a R' k j (stepsOf fs mk 0) ∧ R'[k]? = some (mk, q) ∧ (∀ (i : Nat) (p : List St), i < k → R'[i]? ≠ some (b, p)) ∧ ∀ r ∈ R', 0 ≤ r.1 ∧ r.1 ≤ l) R rfl rfl ⟨B0, hRk, hno, hr⟩ ?_ ?_
        · rintro j ⟨n, bo, g, rr⟩ R' hj ⟨C, cRk, cno, cr⟩
          have clen := C.len l cr
          have hst := C.step hnl cRk hj
          have hq := C.plen _ k mk q rfl cRk
          have hkR := (List.getElem?_eq_some_iff.mp cRk).1
          tbr_iter [notIn_key]
          rw [wIf_c]
          refine ⟨fun h3 => ?_, fun h3 => ?_⟩
          · have h4 : (R'.any fun x => decide (x.1 = g)) = false := by simpa using h3
            have hnew : ¬ ∃ (i : Nat) (p : List St), R'[i]? = some (g, p) := fun e => by rw [any_mark.mpr e] at h4; cases h4
            rw [W_seq, W_put (x := .bl true) (r := 1) (k := g) (S' := [.pl (R'.map rwP), .pd ((R'.map fun r => (.inl r.1, .bl true)) ++ [(.inl g, .bl true)])]) (by tbr_iter []) (by tbr_iter []) (by tbr_iter []) (by tbr_iter [putS_S, putS_0, putP_new (fun r : Rw => r.1) (fun _ => P.bl true) g (.bl true) R' h4])]
            tbr_iter []
            have hmem := (stepsOf_mem fs mk hnl 0 n bo g rr).mp (List.mem_of_getElem? hj)
            rw [Nat.sub_zero] at hmem
            have hrg := stepTo_rng hg hmem.2.1
            refine ⟨R' ++ [(g, q ++ [(n, bo)])], by simp, hst.2 hnew, app1_old cRk, fun i p hi e => ?_, fun r hr' => ?_⟩
            · rcases getElem_app1 e with e | ⟨e1, _⟩
              · exact cno i p hi e
              · have := (List.getElem?_eq_some_iff.mp cRk).1; omega
            · rcases List.mem_append.mp hr' with z | z
              · exact cr r z
              · rw [List.mem_singleton.mp z]; exact hrg.2.2
          · have h4 : (R'.any fun x => decide (x.1 = g)) = true := by simpa using h3
            tbr_iter []
            exact ⟨R', rfl, hst.1 (any_mark.mp h4), cRk, cno, cr⟩
        · rintro R' ⟨C, cRk, cno, cr⟩
          tbr_iter []
          refine ⟨(R', k + 1), rfl, rfl, ⟨C.next hnl cRk [], ?_, fun i p hi e => ?_, cr⟩, ?_⟩
          · have := (List.getElem?_eq_some_iff.mp cRk).1
            simp only; omega
          · simp only at hi e
            by_cases hik : i = k
            · subst hik
              rw [cRk] at e
              cases e
              exact h2 rfl
            · exact cno i p (by omega) e
          · simp only; omega
    · have h := of_decide_eq_false h
      tbr_iter []
      refine ⟨_, rfl, none, rfl, fun ⟨p, hp⟩ => ?_, fun p hp => by cases hp⟩
      obtain ⟨i, q, hi⟩ := B.done (by omega) p b hp
      exact hno i q (by have := (List.getElem?_eq_some_iff.mp hi).1; omega) hi
  obtain ⟨x, S1, h, r, rfl, rfl, h2, h3⟩ := key
  exact ⟨r, h2, h3, h⟩
theorem way_eq (l m : Int) (fs : List F3) (a b : Int) (hg : Gd l m fs) (hf : fs.length ≤ 1000) (hl : l ≤ 1000) (h0 : 0 ≤ a) (h1 : a ≤ l) :
    ∃ r, WayRes fs a b r ∧ f_way [.p (sP l m fs), .p (.int a), .p (.int b)] [] = some (.ok (.p (optS r)), []) := by
  obtain ⟨r, h1, _, h2⟩ := way_eqL l m fs a b hg hf hl h0 h1
  exact ⟨r, h1, h2⟩
end Z

end
section
namespace Z
open PySem L2
local macro_rules | `(tactic| tbr_iter [$ts,*]) => `(tactic| simp (disch := first | assumption | omega | (simp only [List.length_map, List.length_cons, List.length_nil, List.length_append, List.length_range, List.length_take, List.length_drop]; omega)) only [ev_var0s, ev_varS, ev_c, dr_p, dr_0, dr_S, pu_pl, pu_pd, pu_pdT, retO_s, ev_mv, fMv_ref, fMvx_s, ev_p1, fP1_ok, fP1d_s, ev_p2, fP2a_ok, fP2a_exc, fP2b_ok, fP2b_exc, fP2c_s, evs_nil, evs_cons, fEa_ok, fEa_exc, fEb_ok, fEb_exc, drs_nil, drs_cons, fDc_s, ev_pn, fPn_ok, fPn_exc, fPd_s, purs_nil, purs_cons, ev_tup, fTup_ok, fTup_exc, fTd_s, ev_lst, fLst_ok, fLst_exc, fLd_s, ev_newL, fNewL_ok, fNewL_exc, fNd_s, ev_newD, ev_and, fAnd_t, fAnd_f, fAnd_exc, ev_or, fOr_t, fOr_f, fOr_exc, ev_not, fNot_b, fNot_exc, ev_if, fIf_t, fIf_f, fIf_exc, ev_tB, ftB_b, ftB_exc, ev_tTr, ftT_ok, ftT_exc, ftTd_s, tr_non, tr_bl, tr_int, tr_tup, tr_lst, tr_0, tr_S, otr_pl, ev_tand, ftAnd_t, ftAnd_f, ftAnd_exc, ev_tor, ftOr_t, ftOr_f, ftOr_exc, ev_tnot, ftNot_b, ftNot_exc, ev_tyes, ev_sl, fSa_ok, fSa_exc, fSb_ok, fSc_ok, fSd_s, evO_n, evO_s, fO_i, ev_ch, fCa_ok, fCb_ok, fCc_t, fCc_f, ev_call, fCall_ok, fCall_exc, fRp_ok, fRp_exc, cv_1, cv_2, cv_3, cv_4, cv_5, fRt_ok, ev_lc, it_seq, fSeq_t, fSeq_l, it_en, fEn_t, fEn_l, it_r1, fR1_ok, it_r2, fR2a_ok, fR2b_ok, it_z, fZa_ok, fZb_t, fZb_l, ev_me, fMa_ok, fMb_t, fMc_ok, fMc_exc, la_0, la_r0, la_S, fPush_s, app_S, ext_S, W_seq, W_pass, Wn_cons, Wn_nil, W_set, wSet_ok, wSet_exc, W_expr, wEx_ok, wEx_exc, W_ret, wRet_ok, wRet_exc, W_if, wIf_t, wIf_f, wIf_exc, W_brk, W_cont, W_raise, W_asg, wAsg_ok, wAsg_exc, wA_s, asg_nm, asg_tp, asg_tpl, asgs_nil, asgs_cons, fAs_s, W_par2, wPa_ok, wPa_exc, wPb_ok, wPb_exc, clr_nil, clr_cons, W_for, wFor_ok, wFor_exc, IQ_nx, IQ_ct, IQ_bk, IQ_rt, IQ_ex, wB_s, lcE1_s, lcE2_t, lcE2_f, lcE3_s, fLm_s, fLt_s, fLc_ok, o_mod, o_fdiv, o_mulR, o_mulL, o_addT, o_addL, o_sumT, o_sumL, o_app, o_ext, cut_map, cut_0j, cut_i, atI_map, atI_i, all_b, any_b, is_t, is_tl, is_ti, is_tb, is_tn, is_ts, is_i, is_ib, is_it, is_il, is_in, is_is, is_b, is_bi, is_bt, is_bl, is_bn, is_bs, tk_map, dp_map, app_map, neP_nn, neP_in, neP_ni, eqP_nn, eqP_in, eqP_ni, neP_bb, eqP_bb, ssm_fold, in_bl, ev_ixo, fIxa_ok, fIxb_bl, fIxc_s, addP_i, subP_i, negP_i, ltP_i, leP_i, gtP_i, geP_i, isP_n, isP_i, isP_b, isP_t, isP_l, isP_s, isNotP_n, isNotP_i, isNotP_b, isNotP_t, isNotP_l, isNotP_s, isP_bb, isNotP_bb, idxP_t, idxP_l, atI_0, atI_1, atI_2, sliceP_t, sliceP_l, lenP_t, lenP_l, lenP_f, tupleP_t, tupleP_l, listP_t, listP_l, minP_i, maxP_i, intP_i, intP_b, eqP_int, neP_int, List.set_cons_zero, List.set_cons_succ, List.length_cons, List.length_nil, List.map_cons, List.map_nil, List.length_map, List.cons_append, List.nil_append, List.append_nil, Option.map_some, Int.toNat_natCast, Int.reduceToNat, List.getElem?_map, List.getElem?_cons_zero, List.getElem?_cons_succ, List.replicate_zero, List.replicate_succ, Nat.sub_self, Nat.reduceSub, Nat.reduceAdd, Bool.not_true, Bool.not_false, List.take_zero, List.take_succ_cons, and_true, true_and, decide_true, decide_false, Int.cast_ofNat_Int, Int.reduceEq, Int.reduceNe, Int.reduceLT, Int.reduceLE, $[$ts:term],*])
theorem row_eqA {d : Fn} (hd : DrawOk d) (ns : List Int) (n : Nat) (l m : Int) (hl : 0 ≤ l) (hl2 : l ≤ 1000) (hm : 0 < m) (hn : n < 800000) :
    ∃ r, f_l_row d [.p (.fz ns), .ref 0, .p (.int l), .p (.int m)] [tw n] = some (.ok (.p (rP r)), [tw (n + l.toNat)]) ∧ GdR l m r := row_eq hd ns n l m hl hl2 hm hn
theorem factsA_eq {d : Fn} (hd : DrawOk d) (ns : List Int) (n : Nat) (l m most : Int) (hl : 1 ≤ l) (hl2 : l ≤ 1000) (hm : 2 ≤ m) (h0 : 0 ≤ most) (h1 : most ≤ 1000) (hn : n < 700000) :
    ∃ fs n', f_l_facts d [.p (.fz ns), .ref 0, .p (.int l), .p (.int m), .p (.int most)] [tw n] = some (.ok (.p (fsP fs)), [tw n']) ∧ n' ≤ n + l.toNat + 2 + 4 * most.toNat ∧ Gd l m fs ∧ (fs.length : Int) ≤ most := by
  have key : ∃ x S1, f_l_facts d [.p (.fz ns), .ref 0, .p (.int l), .p (.int m), .p (.int most)] [tw n] = some (.ok (.p x), S1) ∧ ∃ fs n', x = fsP fs ∧ S1 = [tw n'] ∧ n' ≤ n + l.toNat + 2 + 4 * most.toNat ∧ Gd l m fs ∧ (fs.length : Int) ≤ most := by
    refine fn_Wx (k := 12) ?_ (by rintro x S1 ⟨r, n', rfl, rfl, _⟩; rfl)
    unfold b_l_facts
    obtain ⟨row, e0, gr⟩ := row_eqA hd ns n l m (by omega) (by omega) (by omega) (by omega)
    obtain ⟨li, li0, li1, e1⟩ := hd.i ns (n + l.toNat) 3 (by omega) (by omega)
    obtain ⟨q, q0, q1, e⟩ := hd.i ns (n + l.toNat + 1) (most + 1) (by omega) (by omega)
    tbr_iter [cvt2 e0, cvt1 e1, cvt1 e]
    refine W_rng (σ := List F3 × Nat) 0 q.toNat (fun s => [some (.p (.fz ns)), some (.ref 0), some (.p (.int l)), some (.p (.int m)), some (.p (.int most)), some (.p (rP row)), some (.p (.int li)), some (.p (fsP s.1)), none, none, none, none]) (fun s => [tw s.2]) (fun i s => s.1.length = i ∧ s.2 ≤ n + l.toNat + 2 + 4 * i ∧ Gd l m s.1) ([], n + l.toNat + 1 + 1) rfl rfl ⟨rfl, by simp, Gd.nil⟩ ?_ ?_
    · rintro i ⟨fs, k⟩ hi ⟨j1, j2, j3⟩
      simp only at j1 j2 j3
      obtain ⟨a, a0, a1, e2⟩ := hd.i ns k l (by omega) (by omega)
      obtain ⟨c, c0, c1, e3⟩ := hd.i ns (k + 1) (l - a) (by omega) (by omega)
      have v0 := Int.emod_nonneg (ssm row a (a + 1 + c)) (show m ≠ 0 by omega)
      have v1 := Int.emod_lt_of_pos (ssm row a (a + 1 + c)) (show 0 < m by omega)
      tbr_iter [cvt1 e2, cvt1 e3]
      by_cases hli : li = 0
      · obtain ⟨x, x0, x1, e4⟩ := hd.i ns (k + 1 + 1) 3 (by omega) (by omega)
        tbr_iter [hli, cvt1 e4]
        by_cases hx : x = 0
        · obtain ⟨y, y0, y1, e5⟩ := hd.i ns (k + 1 + 1 + 1) m (by omega) (by omega)
          tbr_iter [hx, cvt1 e5]
          refine ⟨(fs ++ [(a, a + 1 + c, y)], k + 1 + 1 + 1 + 1), by simp [hli], rfl, by simp [j1], by simp only; omega, ?_⟩
          exact j3.app (Gd.one ⟨a0, by simp only; omega, by simp only; omega, y0, y1⟩)
        · tbr_iter [hx]
          refine ⟨(fs ++ [(a, a + 1 + c, ssm row a (a + 1 + c) % m)], k + 1 + 1 + 1), by simp [hli], rfl, by simp [j1], by simp only; omega, ?_⟩
          exact j3.app (Gd.one ⟨a0, by simp only; omega, by simp only; omega, v0, v1⟩)
      · tbr_iter [hli]
        refine ⟨(fs ++ [(a, a + 1 + c, ssm row a (a + 1 + c) % m)], k + 1 + 1), by simp, rfl, by simp [j1], by simp only; omega, ?_⟩
        exact j3.app (Gd.one ⟨a0, by simp only; omega, by simp only; omega, v0, v1⟩)
    · rintro ⟨fs, k⟩ ⟨j1, j2, j3⟩
      tbr_iter []
      exact ⟨_, rfl, fs, k, rfl, rfl, by simp only at j2; omega, j3, by simp only at j1; omega⟩
  obtain ⟨x, S1, h, fs, n', rfl, rfl, h2⟩ := key
  exact ⟨fs, n', h, h2⟩
theorem sheetA_eq {d : Fn} (hd : DrawOk d) (ns : List Int) (n : Nat) (l m most : Int) (hl : 1 ≤ l) (hl2 : l ≤ 1000) (hm : 2 ≤ m) (h0 : 0 ≤ most) (h1 : most ≤ 1000) (hn : n < 700000) :
    ∃ fs n', f_l_sheet d [.p (.fz ns), .ref 0, .p (.int l), .p (.int m), .p (.int most)] [tw n] = some (.ok (.p (sP l m fs)), [tw n']) ∧ n' ≤ n + l.toNat + 2 + 4 * most.toNat ∧ Gd l m fs ∧ (fs.length : Int) ≤ most := by
  obtain ⟨fs, n', e, h2⟩ := factsA_eq hd ns n l m most hl hl2 hm h0 h1 hn
  refine ⟨fs, n', ?_, h2⟩
  refine fn_W (k := 5) ?_ rfl
  unfold b_l_sheet
  tbr_iter [cvt3 e]
theorem trueA_eq {d : Fn} (hd : DrawOk d) (ns : List Int) (n : Nat) (l m most : Int) (hl : 1 ≤ l) (hl2 : l ≤ 1000) (hm : 2 ≤ m) (h0 : 0 ≤ most) (h1 : most ≤ 1000) (hn : n < 700000) :
    ∃ row fs n', f_l_true d [.p (.fz ns), .ref 0, .p (.int l), .p (.int m), .p (.int most)] [tw n] = some (.ok (.p (.tup [rP row, sP l m fs])), [tw n']) ∧ n' ≤ n + l.toNat + 1 + 2 * most.toNat ∧ Gd l m fs ∧ (fs.length : Int) ≤ most ∧ GdR l m row ∧ ∀ f ∈ fs, fitB m row f = true := by
  have key : ∃ x S1, f_l_true d [.p (.fz ns), .ref 0, .p (.int l), .p (.int m), .p (.int most)] [tw n] = some (.ok (.p x), S1) ∧ ∃ row fs n', x = .tup [rP row, sP l m fs] ∧ S1 = [tw n'] ∧ n' ≤ n + l.toNat + 1 + 2 * most.toNat ∧ Gd l m fs ∧ (fs.length : Int) ≤ most ∧ GdR l m row ∧ ∀ f ∈ fs, fitB m row f = true := by
    refine fn_Wx (k := 10) ?_ (by rintro x S1 ⟨_, r, n', rfl, rfl, _⟩; rfl)
    unfold b_l_true
    obtain ⟨row, e0, gr⟩ := row_eqA hd ns n l m (by omega) (by omega) (by omega) (by omega)
    obtain ⟨q, q0, q1, e⟩ := hd.i ns (n + l.toNat) (most + 1) (by omega) (by omega)
    tbr_iter [cvt2 e0, cvt1 e]
    refine W_rng (σ := List F3 × Nat) 0 q.toNat (fun s => [some (.p (.fz ns)), some (.ref 0), some (.p (.int l)), some (.p (.int m)), some (.p (.int most)), some (.p (rP row)), some (.p (fsP s.1)), none, none, none]) (fun s => [tw s.2]) (fun i s => s.1.length = i ∧ s.2 ≤ n + l.toNat + 1 + 2 * i ∧ Gd l m s.1 ∧ ∀ f ∈ s.1, fitB m row f = true) ([], n + l.toNat + 1) rfl rfl ⟨rfl, by simp, Gd.nil, by simp⟩ ?_ ?_
    · rintro i ⟨fs, k⟩ hi ⟨j1, j2, j3, j4⟩
      simp only at j1 j2 j3 j4
      obtain ⟨a, a0, a1, e2⟩ := hd.i ns k l (by omega) (by omega)
      obtain ⟨c, c0, c1, e3⟩ := hd.i ns (k + 1) (l - a) (by omega) (by omega)
      have v0 := Int.emod_nonneg (ssm row a (a + 1 + c)) (show m ≠ 0 by omega)
      have v1 := Int.emod_lt_of_pos (ssm row a (a + 1 + c)) (show 0 < m by omega)
      tbr_iter [cvt1 e2, cvt1 e3]
      refine ⟨(fs ++ [(a, a + 1 + c, ssm row a (a + 1 + c) % m)], k + 1 + 1), by simp, rfl, by simp [j1], by simp only; omega, ?_, ?_⟩
      · exact j3.app (Gd.one ⟨a0, by simp only; omega, by simp only; omega, v0, v1⟩)
      · intro f hf
        rcases List.mem_append.mp hf with q | q
        · exact j4 f q
        · rw [List.mem_singleton.mp q]; simp [fitB]
    · rintro ⟨fs, k⟩ ⟨j1, j2, j3, j4⟩
      tbr_iter []
      exact ⟨_, rfl, row, fs, k, rfl, rfl, by simp only at j2; omega, j3, by simp only at j1; omega, gr, j4⟩
  obtain ⟨x, S1, h, row, fs, n', rfl, rfl, h2⟩ := key
  exact ⟨row, fs, n', h, h2⟩
theorem wideA_eq {d : Fn} (hd : DrawOk d) (ns : List Int) (n : Nat) (most : Int) (h0 : 0 ≤ most) (h1 : most ≤ 1000) (hn : n < 600000) :
    ∃ l m fs n', f_l_wide d [.p (.fz ns), .ref 0, .p (.int most)] [tw n] = some (.ok (.p (sP l m fs)), [tw n']) ∧ n' ≤ n + 20 + 4 * most.toNat ∧ 1 ≤ l ∧ l ≤ 9 ∧ 2 ≤ m ∧ m ≤ 99 ∧ Gd l m fs ∧ (fs.length : Int) ≤ most := by
  obtain ⟨a, a0, a1, e1⟩ := hd.i ns n 9 (by omega) (by omega)
  obtain ⟨b, b0, b1, e2⟩ := hd.i ns (n + 1) 8 (by omega) (by omega)
  obtain ⟨c, c0, c1, e3⟩ := hd.i ns (n + 1 + 1) 98 (by omega) (by omega)
  obtain ⟨x, x0, e4⟩ := pick_eq hd ns (n + 1 + 1 + 1) [.int 2, .int (2 + b), .int (2 + c)] (by simp) (by omega)
  have hx : ∃ m : Int, x = .int m ∧ 2 ≤ m ∧ m ≤ 99 := by
    simp only [List.mem_cons, List.not_mem_nil, or_false] at x0
    rcases x0 with q | q | q
    · exact ⟨_, q, by omega, by omega⟩
    · exact ⟨_, q, by omega, by omega⟩
    · exact ⟨_, q, by omega, by omega⟩
  obtain ⟨m, rfl, m0, m1⟩ := hx
  obtain ⟨fs, n', e5, g1, g2, g3⟩ := sheetA_eq hd ns (n + 1 + 1 + 1 + 1) (1 + a) m most (by omega) (by omega) m0 h0 h1 (by omega)
  refine ⟨1 + a, m, fs, n', ?_, by omega, by omega, by omega, m0, m1, g2, g3⟩
  refine fn_W (k := 5) ?_ rfl
  unfold b_l_wide
  tbr_iter [cvt1 e1, cvt1 e2, cvt1 e3, cvt1 e4, cvt3 e5]
end Z

end
section
namespace Z
open PySem PySem.Spec PyProof.Rows L2
/-! ### a, b, c = x, y, z -/
def sPar3 (i j l : Nat) (a b c : EM) : SM := fun env S => stm env (a env S) fun v S1 => stm env (b env S1) fun u S2 => stm env (c env S2) fun w S3 => some (.nx (((env.set i (some v)).set j (some u)).set l (some w)), S3)
section
variable {X : Cx} {W : WX} {pos : Pos}
theorem ds_par3 (i j l : Nat) {x y z : Str} {a b c : Expr} {ma mb mc : EM} {px py pz pt pt2 : Pos} {kt k2 : Nat} (hN : X.N.Nodup) (ha : DE X W a ma) (hb : DE X W b mb) (hcc : DE X W c mc) (hc : X.calm = true := by rfl) (hi : X.N[i]? = some x := by rfl) (hj : X.N[j]? = some y := by rfl) (hl : X.N[l]? = some z := by rfl) (hij : i ≠ j := by decide) (hil : i ≠ l := by decide) (hjl : j ≠ l := by decide)
    (hx : X.env.scope.names.lookup x = some .local := by rfl) (hy : X.env.scope.names.lookup y = some .local := by rfl) (hz : X.env.scope.names.lookup z = some .local := by rfl)
    (hs1 : starEach (a :: [b, c]) X.env = (false, eval a X.env) :: starEach [b, c] X.env := by rfl) (hs2 : starEach (b :: [c]) X.env = (false, eval b X.env) :: starEach [c] X.env := by rfl) (hs3 : starEach (c :: []) X.env = (false, eval c X.env) :: starEach [] X.env := by rfl)
    (hw : swappedStores [.Tuple [.Name x px, .Name y py, .Name z pz] kt pt] (.Tuple [a, b, c] k2 pt2) X.env = pure (some [x, y, z]) := by rfl)
    (hs : swapsWithSole [.Tuple [.Name x px, .Name y py, .Name z pz] kt pt] (.Tuple [a, b, c] k2 pt2) pos.line X.env = pure false := by rfl) :
    DS X W (.Assign [.Tuple [.Name x px, .Name y py, .Name z pz] kt pt] (.Tuple [a, b, c] k2 pt2) pos) (sPar3 i j l ma mb mc) := by
  refine PS.imp (ps_par3 hc hN hi hj hl hij hil hjl hx hy hz (da_cons ha (da_cons hb (da_cons hcc da_nil hs3) hs2) hs1) hw hs) fun D σ H ⟨F, ρ, env, S, r, e, h⟩ => ?_
  unfold sPar3 at h
  refine ⟨F, ρ, env, S, r, e, ?_⟩
  show Ans (bnd (ma env S) fun v S1 => bnd (evs [mb, mc] env S1) fun vs S2 => some (.ok (v :: vs), S2)) _ _
  refine Ans.of_bnd (h.stm.imp (fun d S1 h1 => ?_) fun _ _ q => KXS.one e q)
  show Ans (bnd (bnd (mb env S1) fun v S1 => bnd (evs [mc] env S1) fun vs S2 => some (.ok (v :: vs), S2)) fun vs S2 => some (.ok (d :: vs), S2)) _ _
  refine Ans.of_bnd (Ans.of_bnd (h1.stm.imp (fun d2 S2 h2 => ?_) fun _ _ q => KXS.one e q))
  show Ans (bnd (bnd (mc env S2) fun v S1 => some (.ok [v], S1)) fun vs S2 => some (.ok (d2 :: vs), S2)) _ _
  refine Ans.of_bnd (Ans.of_bnd (h2.stm.imp (fun d3 S3 h3 => ?_) fun _ _ q => KXS.one e q))
  show KL1 X.K H F ρ _ [d, d2, d3] S3
  intro vs H' ρ' x r' v
  cases v with
  | cons v1 t => cases t with
    | cons v2 t => cases t with
      | cons v3 t =>
        cases t
        exact ⟨_, _, _, rfl, (show KE1 X.K H F ρ D.nx (((env.set i (some d)).set j (some d2)).set l (some d3)) S3 from h3) _ H' ρ' x r' ((((e.xt x).set v1).set v2).set v3)⟩
/-! ### xs[i] = e -/
theorem ds_subL {o i e : Expr} {mo mi me : EM} {pos' : Pos} (ho : DE X W o mo) (hi : DE X W i mi) (he : DE X W e me)
    (hs : swapsWithSole [.Subscript o i pos'] e pos.line X.env = pure false := by rfl) (hw : swappedStores [.Subscript o i pos'] e X.env = pure none := by rfl)
    (ha : ∀ v, assign (.Subscript o i pos') X.env v = (do
      let ov ← holding [v] (eval o X.env)
      let iv ← holding [v, ov] (eval i X.env)
      standAt pos'
      holding [v, ov, iv] (setItem ov iv v)
      release [v, ov, iv] []) := by intro _; rfl) (h1 : (assignEach [.Subscript o i pos'] X.env).map (·.2) = [assign (.Subscript o i pos') X.env] := by rfl) : DS X W (.Assign [.Subscript o i pos'] e pos) (mSub mo mi me) :=
  ds_sub (o := o) (i := i) (e := e) (ps_asg he (pg_sub ho hi set_list ha) hs hw h1)
/-! ### list(range(..)), tuple(range(..)) -/
abbrev RM := Env → M (Int × Int)
def rg1 (m : EM) : RM := fun env S => bnd (m env S) fun v S1 => match v with
  | .p (.int j) => if smB j = true then some (.ok (0, j), S1) else none
  | _ => none
def rg2 (a b : EM) : RM := fun env S => bnd (a env S) fun v S1 => bnd (b env S1) fun u S2 => match v, u with
  | .p (.int i), .p (.int j) => if smB i = true ∧ smB j = true then some (.ok (i, j), S2) else none
  | _, _ => none
def TRx (K : PySem.W.Frag) (mg : Str → Option Value) (W : WX) (m : RM) : L2.St → Hp → (Int → Int → Hp → Prop) → Prop := fun σ H Q => ∃ F ρ env S, Rl K H F ρ S ∧ RE K H F ρ env σ ∧
  Ans (m env S) (fun q S' => smB q.1 = true ∧ smB q.2 = true → ∀ H' ρ', Xt H ρ H' ρ' → Rl K H' F ρ' S' → Q q.1 q.2 H') (KX1 K mg H F ρ σ W)
abbrev DR (X : Cx) (W : WX) (e : Expr) (m : RM) : Prop := PRg X e (TRx X.K X.mg W m)
theorem PRg.imp {e : Expr} {t t' : L2.St → Hp → (Int → Int → Hp → Prop) → Prop} (h : PRg X e t) (i : ∀ σ H Q, t' σ H Q → t σ H Q) : PRg X e t' := fun pins s σ H Q I q => h pins s σ H Q I (i σ H Q q)
theorem dr_1 {a : Expr} {m : EM} {p pos : Pos} (hm : X.mg "range" = none) (ha : DE X W a m) (hg : Gl X "range" := by rfl) (na : starEach [a] X.env = (false, eval a X.env) :: starEach [] X.env := by rfl) : DR X W (.Call (.Name "range" p) [a] [] pos) (rg1 m) := by
  refine PRg.imp (prg_1 hg hm ha na) fun σ H Q ⟨F, ρ, env, S, r, e, h⟩ => ?_
  unfold rg1 at h
  refine ⟨F, ρ, env, S, r, e, h.bnd.imp (fun d S1 h1 v H1 ρ1 x1 r1 v1 => ?_) fun _ _ q => q⟩
  split at h1
  · rename_i j
    cases v1
    split at h1
    · rename_i hj
      exact ⟨j, rfl, h1 ⟨smB_lit (by omega) (by omega), hj⟩ H1 ρ1 x1 r1⟩
    · exact h1.elim
  · exact h1.elim
theorem dr_2 {a b : Expr} {ma mb : EM} {p pos : Pos} (hm : X.mg "range" = none) (ha : DE X W a ma) (hb : DE X W b mb) (hg : Gl X "range" := by rfl) (na : starEach [a, b] X.env = (false, eval a X.env) :: starEach [b] X.env := by rfl)
    (nb : starEach [b] X.env = (false, eval b X.env) :: starEach [] X.env := by rfl) (hp : (backTo pos (starEach [b] X.env)).any (·.1) = false := by rfl) : DR X W (.Call (.Name "range" p) [a, b] [] pos) (rg2 ma mb) := by
  refine PRg.imp (prg_2 hg hm ha hb na nb hp) fun σ H Q ⟨F, ρ, env, S, r, e, h⟩ => ?_
  unfold rg2 at h
  refine ⟨F, ρ, env, S, r, e, h.bnd.imp (fun d S1 h1 v H1 ρ1 x1 r1 v1 => ?_) fun _ _ q => q⟩
  refine ⟨F, ρ1, env, S1, r1, e.xt x1, h1.bnd.imp (fun d2 S2 h2 v2 H2 ρ2 x2 r2 w2 => ?_) fun _ _ q => q.xt x1⟩
  split at h2
  · rename_i i j
    cases v1
    cases w2
    split at h2
    · rename_i hj
      exact ⟨i, j, rfl, rfl, h2 hj H2 ρ2 (x1.trans x2) r2⟩
    · exact h2.elim
  · exact h2.elim
def mLstRg (m : RM) : EM := fun env S => bnd (m env S) fun q S1 => if smB q.1 = true ∧ smB q.2 = true then ret1 (.lst (rngL q.1 (q.2 - q.1).toNat)) S1 else none
def mTupRg (m : RM) : EM := fun env S => bnd (m env S) fun q S1 => if smB q.1 = true ∧ smB q.2 = true then ret1 (.tup (rngL q.1 (q.2 - q.1).toNat)) S1 else none
def mNewRg (m : RM) : EM := fun env S => bnd (m env S) fun q S1 => if smB q.1 = true ∧ smB q.2 = true then some (.ok (.ref S1.length), S1 ++ [.pl (rngL q.1 (q.2 - q.1).toNat)]) else none
theorem rgOk_of {a b : Int} (h1 : smB a = true) (h2 : smB b = true) : RgOk a b := by
  have := of_decide_eq_true h1
  have := of_decide_eq_true h2
  exact ⟨by omega, by omega, by omega, by omega, by omega⟩
theorem rgV_rep {K : PySem.W.Frag} {H : Hp} {B : Dom} (a b : Int) : RepL K H B (rngL a (b - a).toNat) (rgV a b) := by
  unfold rngL rgV
  generalize List.range (b - a).toNat = l
  induction l with
  | nil => exact .nil
  | cons x l ih => exact .cons (.int _) ih
theorem de_lstRg {e : Expr} {m : RM} {p pos : Pos} (hm : X.mg "list" = none) (he : DR X W e m) (hc : X.calm = true := by rfl) (hg : Gl X "list" := by rfl) (na : starEach [e] X.env = (false, eval e X.env) :: starEach [] X.env := by rfl) : DE X W (.Call (.Name "list" p) [e] [] pos) (mLstRg m) := by
  refine PE.imp (pe_listRg hc hg hm he na) fun σ H Q ⟨F, ρ, env, S, r, e, h⟩ => ?_
  unfold mLstRg at h
  refine ⟨F, ρ, env, S, r, e, h.bnd.imp (fun q S1 h1 hq H1 ρ1 x1 r1 => ?_) fun _ _ q => q⟩
  rw [if_pos hq] at h1
  refine ⟨rgOk_of hq.1 hq.2, fun p np => ?_⟩
  have s := Same.upd (o := .lst (rgV q.1 q.2)) np
  exact KV1.xt x1 h1 _ _ ρ1 (Xt.grow s) (r1.grow s) (.lst upd_same (fun q => r1.al p q np) (rgV_rep _ _))
theorem de_tupRg {e : Expr} {m : RM} {p pos : Pos} (hm : X.mg "tuple" = none) (he : DR X W e m) (hc : X.calm = true := by rfl) (hg : Gl X "tuple" := by rfl) (na : starEach [e] X.env = (false, eval e X.env) :: starEach [] X.env := by rfl) : DE X W (.Call (.Name "tuple" p) [e] [] pos) (mTupRg m) := by
  refine PE.imp (pe_tupRg hc hg hm he na) fun σ H Q ⟨F, ρ, env, S, r, e, h⟩ => ?_
  unfold mTupRg at h
  refine ⟨F, ρ, env, S, r, e, h.bnd.imp (fun q S1 h1 hq H1 ρ1 x1 r1 => ?_) fun _ _ q => q⟩
  rw [if_pos hq] at h1
  refine ⟨rgOk_of hq.1 hq.2, fun p np => ?_⟩
  have s := Same.upd (o := .tup (rgV q.1 q.2)) np
  exact KV1.xt x1 h1 _ _ ρ1 (Xt.grow s) (r1.grow s) (.tup upd_same (fun q => r1.al p q np) (rgV_rep _ _))
theorem de_newRg {e : Expr} {m : RM} {p pos : Pos} (hm : X.mg "list" = none) (he : DR X W e m) (hc : X.calm = true := by rfl) (hg : Gl X "list" := by rfl) (na : starEach [e] X.env = (false, eval e X.env) :: starEach [] X.env := by rfl) : DE X W (.Call (.Name "list" p) [e] [] pos) (mNewRg m) := by
  refine PE.imp (pe_listRg hc hg hm he na) fun σ H Q ⟨F, ρ, env, S, r, e, h⟩ => ?_
  unfold mNewRg at h
  refine ⟨F, ρ, env, S, r, e, h.bnd.imp (fun q S1 h1 hq H1 ρ1 x1 r1 => ?_) fun _ _ q => q⟩
  rw [if_pos hq] at h1
  refine ⟨rgOk_of hq.1 hq.2, fun p np => ?_⟩
  have px : Xt H1 ρ1 (upd H1 p (.lst (rgV q.1 q.2))) (ρ1 ++ [some p]) := push_xt np
  refine KV1.xt x1 h1 _ _ (ρ1 ++ [some p]) px (push_rl r1 np ⟨_, upd_same, rgV_rep _ _⟩) ⟨?_, fun a ha => ?_⟩
  · rw [← r1.len]; simp
  · rw [← r1.len, List.getElem?_append_right (Nat.le_refl _), Nat.sub_self] at ha
    cases ha; rfl
/-! ### raise X() of an own class -/
abbrev veB : List Value := [.type "ValueError", .type "Exception", .type "BaseException", .type "object"]
def Xc (K : PySem.W.Frag) (mg : Str → Option Value) (c : Str) : Prop := ∃ C : Addr, mg c = some (.ref C) ∧ PySem.W.excIn K C veB "ValueError.__new__" = true ∧ PySem.W.keepIn K (.ref C) = true ∧ PySem.W.subIn K (.ref C) (.type "BaseException") = some true ∧ PySem.W.typeIn K (.ref C) = some (.type "type")
theorem pmk_own0 {C : Addr} {bmB : List Value} {B newId initId : String} {x : Str} {p : Pos} (F : ExcBaseFacts B newId initId bmB) (q : PySem.W.excIn X.K C bmB newId = true) (gC : X.mg x = some (.ref C)) (kC : PySem.W.keepIn X.K (.ref C) = true) (r : Raises X (.ref C)) (hg : Gl X x)
    (hdb : (x == ("__debug__" : Str)) = false := by decide) : PMk X (.Call (.Name x p) [] [] pos) (fun _ H Q => Q (.ref C) none H) := by
  intro pins s σ H Q I h
  refine wpAny_Call_Name_kw (ld_glob I hg gC ?_ hdb)
  refine PySem.W.callWith_K0 I.kIn kC ?_
  obtain ⟨bm, N, nm, qn, bs, hdct, sn, sub, ab, col, dd, k0, k1, k2, k3, k5, mN, hC, hN, hni, T⟩ := exc_obj I.kIn q
  refine wpAny_call_exc_subT F T hC hN hni (fun h' e hm => ?_) (Nat.zero_le _)
  exact mk_of I hm r h (I.hok.gone hm.new)
theorem ds_raise {c : Str} {p pos' : Pos} (h : Xc X.K X.mg c) (tk : Takes X W) (hc : X.calm = true := by rfl) (hg : Gl X c := by rfl) (hdb : (c == ("__debug__" : Str)) = false := by decide) : DS X W (.Raise (some (.Call (.Name c p) [] [] pos')) none pos) (sRaise c) := by
  obtain ⟨C, gC, q, kC, s1, t1⟩ := h
  refine PS.imp (ps_raise hc tk (pmk_own0 PySem.F.excBase_ValueError q gC kC (raises_own s1 t1) hg hdb)) fun D σ H ⟨F, ρ, env, S, r, e, h⟩ => ?_
  exact (show KXS X.K X.mg H F ρ W c env S from h) C σ H ρ gC Xt.refl r e
/-! ### try .. except .. -/
def trH : List (Str × SM) → Str → Env → List O → Option (Fl × List O)
  | [], c, e, S => some (.ex c e, S)
  | (d, b) :: r, c, e, S => if c = d then b e S else trH r c e S
def sTry (kn : List Str) (hs : List (Str × SM)) (a : SM) : SM := fun env S => match a env S with
  | some (.ex c e, S1) => if c ∈ kn then trH hs c e S1 else none
  | r => r
def Xm (K : PySem.W.Frag) (mg : Str → Option Value) (c d : Str) : Prop := ∀ C D : Addr, mg c = some (.ref C) → mg d = some (.ref D) → PySem.W.exmOne K (.ref C) (.ref D) = some (decide (c = d))
inductive TrOk (X : Cx) (W : WX) (kn : List Str) : List ExceptHandler → List (Str × SM) → Prop
  | nil : TrOk X W kn [] []
  | cons {d : Str} {b₀ : Stmt} {suite : List Stmt} {np pos' : Pos} {b : SM} {hds : List ExceptHandler} {hs : List (Str × SM)} (hx : Xc X.K X.mg d) (hg : Gl X d) (hdb : (d == ("__debug__" : Str)) = false) (hm : ∀ c ∈ kn, Xm X.K X.mg c d)
      (hb : ∀ (a : Addr) (oe : Obj) (pn : List (Addr × Obj)), DSs (X.suite a ((a, oe) :: pn)) W (b₀ :: suite) b) (r : TrOk X W kn hds hs) : TrOk X W kn (.ExceptHandler (some (.Name d np)) none (b₀ :: suite) pos' :: hds) ((d, b) :: hs)
theorem TrOk.go {kn : List Str} {hds : List ExceptHandler} {hs : List (Str × SM)} (h : TrOk X W kn hds hs) : ∃ l, HdsOk X hds l ∧ ∀ (D : Ends) (c : Str) (C : Addr) (e : Env) (S : List O) (F : Dom) (ρ : Rho) (H : Hp) (σ : L2.St), c ∈ kn → X.mg c = some (.ref C) → Rl X.K H F ρ S → RE X.K H F ρ e σ →
    AnsS (trH hs c e S) (KE1 X.K H F ρ D.nx) (KV1 X.K H F ρ D.rt) (KE1 X.K H F ρ D.bk) (KE1 X.K H F ρ D.ct) (KXS X.K X.mg H F ρ W) → wMany X.K W D l (.ref C) none σ H := by
  induction h with
  | nil => exact ⟨[], .nil, fun D c C e S F ρ H σ _ hc r re a => (show KXS X.K X.mg H F ρ W c e S from a) C σ H ρ hc Xt.refl r re⟩
  | @cons d b₀ suite np pos' b hds hs hx hg hdb hm hb r ih =>
    obtain ⟨l, h1, h2⟩ := ih
    obtain ⟨D0, gD, _, _, _, _⟩ := hx
    refine ⟨(.ref D0, fun _ _ _ => TSx X.K X.mg W b) :: l, .cons ⟨hg, hdb, .inl gD⟩ (fun a oe cls dd pn _ _ => hb a oe pn) h1, fun D c C e S F ρ H σ hk hc r re a => ?_⟩
    refine ⟨decide (c = d), hm c hk C D0 hc gD, fun z a0 _ => ?_, fun z => ?_⟩
    · have z := of_decide_eq_true z
      unfold trH at a
      rw [if_pos z] at a
      exact ⟨F, ρ, e, S, r, re, a⟩
    · have z := of_decide_eq_false z
      unfold trH at a
      rw [if_neg z] at a
      exact h2 D c C e S F ρ H σ hk hc r re a
theorem ds_try {kn : List Str} {body : List Stmt} {h₀ : ExceptHandler} {hds : List ExceptHandler} {hs : List (Str × SM)} {a : SM} (tk : Takes X W)
    (hb : ∀ (W1 : WX) (pn : List (Addr × Obj)) (xe : Value → Shared → Prop), Takes (X.tr pn xe) W1 → PassesOwn (model X.prog X.w) X.A X.env xe → DSs (X.tr pn xe) W1 body a)
    (hh : TrOk X W kn (h₀ :: hds) hs) (hst : X.stack = X.env :: X.outer := by rfl) (hf : X.env.frame = some X.env.locals := by rfl) : DS X W (.Try body (h₀ :: hds) [] [] pos) (sTry kn hs a) := by
  obtain ⟨l, h1, h2⟩ := hh.go
  refine PS.imp (ps_try_many (tb := fun W1 => TSx X.K X.mg W1 a) hst hf tk hb h1) fun D σ H ⟨F, ρ, env, S, r, e, h⟩ => ?_
  refine ⟨F, ρ, env, S, r, e, ?_⟩
  unfold sTry at h
  match q : a env S, h with
  | some (.nx e1, S1), h => exact h
  | some (.rt v, S1), h => exact h
  | some (.bk e1, S1), h => exact h
  | some (.ct e1, S1), h => exact h
  | some (.ex c e1, S1), h =>
    intro C σ' H' ρ' hc x r' re
    dsimp only at h
    split at h
    · rename_i hk
      exact h2 D c C e1 S1 F ρ' H' σ' hk hc r' re (h.xt x)
    · exact h.elim
end
end Z

end
section
set_option maxHeartbeats 4000000
namespace Z
open PySem PySem.Spec PyProof.Rows L2 HT
/-! ### x[::-1] -/
theorem fm_congr {α β : Type} {f g : α → Option β} : ∀ {l : List α}, (∀ x ∈ l, f x = g x) → l.filterMap f = l.filterMap g
  | [], _ => rfl
  | x :: l, h => by rw [List.filterMap_cons, List.filterMap_cons, h x (by simp), fm_congr fun y hy => h y (by simp [hy])]
section
variable {prog : Program} {w : World} {A : Around} {E : Value → Shared → Prop} {s : Shared}
theorem adjust_rev (n : Nat) : Builtin.Slice.sliceAdjust none none (-1) (n : Int) = ((n : Int) - 1, -1) := by
  unfold Builtin.Slice.sliceAdjust
  simp
theorem places_rev (n : Nat) : Builtin.Slice.slicePlaces ((n : Int) - 1) (-1) (-1) = n := by
  unfold Builtin.Slice.slicePlaces
  have h1 : ¬ ((-1 : Int) > 0) := by omega
  simp only [h1, if_false]
  by_cases h : (n : Int) - 1 > -1
  · rw [if_pos h, show (- -1 : Int) = 1 by decide, Int.ediv_one]
    omega
  · rw [if_neg h]
    omega
theorem sliceApplied_rev {sl : Addr} {vl vu vs : Value} {n : Nat} {Q : Int × Int × Nat → Shared → Prop} (hs : s.heap.IsSliceOf sl vl vu vs) (pl : IsPart vl none) (pu : IsPart vu none) (ps : IsPart vs (some (-1)))
    (h : Q ((n : Int) - 1, -1, n) s) : wpAny (model prog w) A (Builtin.Slice.sliceApplied (.ref sl) (pure (n : Int))) Q E s := by
  obtain ⟨os, hos, hcs, hds⟩ := id hs
  unfold Builtin.Slice.sliceApplied Builtin.Slice.sliceFields
  refine wpAny_bind (wpAny_bind (wpAny_field hos hds (x := vl) rfl (wpAny_bind (wpAny_field hos hds (x := vu) rfl (wpAny_bind (wpAny_field hos hds (x := vs) rfl (wpAny_pure ?_)))))))
  refine wpAny_bind (slicePart_ ps ?_)
  show wpAny _ _ (if ((-1 : Int) == 0) = true then _ else _) _ _ s
  rw [if_neg (by decide)]
  refine wpAny_bind (slicePart_ pl (wpAny_bind (slicePart_ pu (wpAny_bind (wpAny_pure ?_)))))
  show wpAny _ _ (match Builtin.Slice.sliceAdjust none none (-1) (n : Int) with | (lo, hi) => pure (lo, (-1 : Int), Builtin.Slice.slicePlaces lo hi (-1))) _ _ s
  rw [adjust_rev n]
  show wpAny _ _ (pure ((n : Int) - 1, (-1 : Int), Builtin.Slice.slicePlaces ((n : Int) - 1) (-1) (-1))) _ _ s
  rw [places_rev]
  exact wpAny_pure h
theorem pick_rev (xs : Array Value) : ((List.range xs.size).filterMap fun (m : Nat) => xs[(((xs.size : Nat) : Int) - 1 + (m : Int) * -1).toNat]?).toArray = xs.toList.reverse.toArray := by
  have h := PySem.W.krv_all xs
  have e : ((List.range xs.size).filterMap fun (m : Nat) => xs[(((xs.size : Nat) : Int) - 1 + (m : Int) * -1).toNat]?) = ((List.range xs.size).map fun k => xs.size - 1 - k).filterMap (xs[·]?) := by
    rw [List.filterMap_map]
    apply fm_congr
    intro m hm
    have := List.mem_range.mp hm
    show xs[(((xs.size : Nat) : Int) - 1 + (m : Int) * -1).toNat]? = xs[xs.size - 1 - m]?
    congr 1
    omega
  rw [e, PySem.W.krv_range, List.filterMap_reverse, h]
theorem getItem_tuple_rev {t sl : Addr} {items : Array Value} {vl vu vs : Value} {Q : Value → Shared → Prop} (ht : IsTup s.heap t items) (hs : s.heap.IsSliceOf sl vl vu vs) (pl : IsPart vl none) (pu : IsPart vu none) (ps : IsPart vs (some (-1)))
    (h : Q (.ref s.heap.objs.size) { s with heap := s.heap.push { cls := .type "tuple", data := .seq items.toList.reverse.toArray } })
    (hsz : items.size ≤ sizeLine) : wpAny (model prog w) A (getItem (.ref t) (.ref sl)) Q E s := by
  have htake : sizeOk (.seq items.toList.reverse.toArray) := by
    show items.toList.reverse.toArray.size ≤ sizeLine
    rw [List.size_toArray, List.length_reverse, Array.length_toList]
    exact hsz
  obtain ⟨os, hos, hcs, hds⟩ := id hs
  have hTs : s.TypeIs (.ref sl) "slice" := ⟨os, hos, hcs⟩
  unfold getItem
  try with_reducible refine wpAny_holding ?_
  first | refine wpAny_bind (wpAny_pure ?_) | skip
  refine wpAny_bind (wpAny_sequenceKey ht.typeIs (by decide) ?_)
  refine wpAny_bind (wpAny_callSpecial?_slot (name := Str.ofString "__getitem__") ht.typeIs PyProof.Rows.slot_tuple_getitem
    (wpAny_call_entry PyProof.Rows.slot_tuple_getitem ht.typeIs entry_tuple_getitem ?_ (args_tuple_getitem _ _)))
  show wpAny _ _ (Builtin.Tuple.tupleItemsOf (.ref t) >>= _) _ _ s
  refine wpAny_bind (tupleItemsOf_ ht ?_)
  refine wpAny_bind (wpAny_typeOf hTs ?_)
  rw [if_pos (by decide)]
  refine wpAny_bind (sliceApplied_rev hs pl pu ps ?_)
  have hno : ¬ ((((items.size : Nat) : Int) - 1 == 0 && (-1 : Int) == 1 && items.size == items.size) = true) := by
    intro q
    rw [Bool.and_eq_true, Bool.and_eq_true] at q
    exact absurd q.1.2 (by decide)
  show wpAny _ _ (if (((items.size : Nat) : Int) - 1 == 0 && (-1 : Int) == 1 && items.size == items.size) = true then _ else _) _ _ s
  rw [if_neg hno, pick_rev]
  first
    | exact wpAny_bind (m := Builtin.Tuple.tupleExact _) (wpAny_newObj_type (wpAny_pure ⟨_, rfl, wpAny_pure h⟩) htake)
    | exact wpAny_bind (m := Builtin.Tuple.tupleExact _) (wpAny_newObj_type (wpAny_bind (wpAny_pure (wpAny_pure ⟨_, rfl, wpAny_pure h⟩))) htake)
end
section
variable {X : Cx} {W : WX}
def tRevT (K : PySem.W.Frag) (te : TE) : TE := fun σ H Q => te σ H fun x H1 => ∃ a xs, x = .ref a ∧ SqT K H1 a xs ∧ ∀ p, H1 p = none → Q (.ref p) (upd H1 p (.tup xs.reverse))
theorem pe_revT {e : Expr} {te : TE} {k : Nat} {p1 p2 p3 pos : Pos} (he : PE X e te) : PE X (.Subscript e (.Slice none none (some (.UnaryOp .USub (.Constant (.int 1) k p1) p2)) p3) pos) (tRevT X.K te) := by
  refine ⟨fun pins s σ H Q I h => ?_⟩
  refine Subscript_ (thn (he.run pins s σ H _ I h) fun v s1 ⟨x, H1, I1, r1, q1⟩ => ?_)
  obtain ⟨a, xs, ex, hx, q⟩ := q1
  subst ex
  cases r1
  have hst : PO X (some (.UnaryOp .USub (.Constant (.int 1) k p1) p2)) (tPart (tUn (rU fun i => .int (-i)) (tC (.int 1)))) := po_some (pe_un un_neg pe_int)
  refine wpAny_Slice (thn (po_none.run pins s1 σ H1 (fun o H2 => o = none ∧ H2 = H1) I1 ⟨rfl, rfl⟩) fun vl s2 ⟨l, H2, I2, pl, el, e2⟩ => ?_)
  subst el e2
  refine thn (po_none.run pins s2 σ H2 (fun o H3 => o = none ∧ H3 = H2) I2 ⟨rfl, rfl⟩) fun vu s3 ⟨u, H3, I3, pu, eu, e3⟩ => ?_
  subst eu e3
  refine thn (hst.run pins s3 σ H3 (fun o H4 => o = some (-1) ∧ H4 = H3) I3 ⟨1, rfl, -1, rfl, rfl, rfl⟩) fun vs s4 ⟨o, H4, I4, ps, eo, e4⟩ => ?_
  subst eo e4
  have I5 : Inv X pins σ H4 { s4 with heap := s4.heap.push { cls := .type "slice", data := .fields #[vl, vu, vs] } } := I4.kept (t' := s4.toks) fun b ob q => Heap.get?_push_of_some _ q
  obtain ⟨its, r, ht, hz⟩ := I5.tuple hx
  have hlen := r.length
  show wpAny (model X.prog X.w) X.A (subscriptTail e (.Slice none none (some (.UnaryOp .USub (.Constant (.int 1) k p1) p2)) p3) (.ref a) (.ref s4.heap.objs.size)) (EP X pins σ Q) X.xe { s4 with heap := s4.heap.push { cls := .type "slice", data := .fields #[vl, vu, vs] } }
  refine tail_any (ops := [.ref a, .ref s4.heap.objs.size]) ht.typeIs (PyProof.Rows.slot_tuple_getitem.lookup) ?_ (by with_unfolding_all rfl)
  refine getItem_tuple_rev ht (Heap.IsSliceOf.new _ vl vu vs) pl pu ps ?_ (by rw [List.size_toArray]; omega)
  refine ⟨.ref _, _, I5.laid (t' := s4.toks) (o := .tup xs.reverse) (fun b ob q => Heap.get?_push_of_some _ q) (Nat.le_refl _) ?_, rfl, q _ (I5.hok.fresh (Nat.le_refl _))⟩
  exact ⟨by rw [List.length_reverse]; exact hz, _, r.reverse, IsTup.new _ _⟩
def revP : P → Option P
  | .tup xs => some (.tup xs.reverse)
  | .lst xs => some (.lst xs.reverse)
  | _ => none
theorem RepL.rev {K : PySem.W.Frag} {H : Hp} {B : Dom} : ∀ {xs : List P} {vs : List V}, RepL K H B xs vs → RepL K H B xs.reverse vs.reverse
  | _, _, .nil => .nil
  | _, _, .cons h t => by
    rw [List.reverse_cons, List.reverse_cons]
    exact (RepL.rev t).append (.cons h .nil)
theorem de_rev {e : Expr} {m : EM} {k : Nat} {p1 p2 p3 pos : Pos} (he : DE X W e m) : DE X W (.Subscript e (.Slice none none (some (.UnaryOp .USub (.Constant (.int 1) k p1) p2)) p3) pos) (mP1 revP m) := by
  refine PE.imp (PE.or (pe_revT he) (pe_revL he)) fun σ H Q ⟨F, ρ, env, S, r, e, h⟩ => ?_
  unfold mP1 at h
  have h := ans_eq h.bnd
  match q : m env S, h with
  | some (.exc c, S1), h => exact .inl ⟨F, ρ, env, S, r, e, by rw [q]; exact h⟩
  | some (.ok d, S1), h =>
    obtain ⟨_, h⟩ := h
    obtain ⟨x, e1, h⟩ := h.opt
    obtain ⟨y, e2, h⟩ := h.opt
    cases x with
    | tup ys =>
      cases e2
      refine .inl ⟨F, ρ, env, S, r, e, ?_⟩
      rw [q]
      intro v H1 ρ1 x1 r1 v1
      obtain ⟨a, vs, rfl, g1, g2, g3⟩ := (deref_rep r1 v1 e1).tup
      refine ⟨a, vs, rfl, SqT.of g1, fun p np => ?_⟩
      have s := Same.upd (o := .tup vs.reverse) np
      exact KV1.xt x1 h _ _ ρ1 (Xt.grow s) (r1.grow s) (.tup upd_same (fun q => r1.al p q np) ((g3.rev).xt (Xt.grow s)))
    | lst ys =>
      cases e2
      refine .inr ⟨F, ρ, env, S, r, e, ?_⟩
      rw [q]
      intro v H1 ρ1 x1 r1 v1
      obtain ⟨a, vs, rfl, g1, g3⟩ := (deref_rep r1 v1 e1).lstI
      refine ⟨a, vs, rfl, SqL.of g1, fun p np => ?_⟩
      have s := Same.upd (o := .lst vs.reverse) np
      exact KV1.xt x1 h _ _ ρ1 (Xt.grow s) (r1.grow s) (.lst upd_same (fun q => r1.al p q np) ((g3.rev).xt (Xt.grow s)))
    | non => cases e2
    | bl b => cases e2
    | int b => cases e2
    | str b => cases e2
    | fz b => cases e2
    | dct b => cases e2
    | dcT b => cases e2
/-! ### list(x) that will be changed -/
def seqOfP : List P → Option (List P)
  | [.tup xs] => some xs
  | [.lst xs] => some xs
  | _ => none
def mNewOf (ms : List EM) : EM := fun env S => bnd (evs ms env S) fun vs S1 => (derefs S1 vs).bind fun ps => (seqOfP ps).bind fun xs => some (.ok (.ref S1.length), S1 ++ [.pl xs])
theorem de_newOf {e : Expr} {es : List Expr} {ms : List EM} {p pos : Pos} (hm : X.mg "list" = none) (ha : DA X W (e :: es) ms) (hg : Gl X "list" := by rfl) (hn : ("list" : Str) ≠ "__name__" := by decide) (hdb : (("list" : Str) == ("__debug__" : Str)) = false := by decide)
    (he : starEach (e :: es) X.env = (false, eval e X.env) :: starEach es X.env := by rfl) (hpl : (backTo pos (starEach es X.env)).any (·.1) = false := by rfl) : DE X W (.Call (.Name "list" p) (e :: es) [] pos) (mNewOf ms) := by
  refine PE.imp (pe_callTy call_list_of hg hm (by decide +kernel) ha hn hdb he hpl) fun σ H Q ⟨F, ρ, env, S, r, e, h⟩ => ?_
  unfold mNewOf at h
  refine ⟨F, ρ, env, S, r, e, h.bnd.imp (fun ds S1 h1 vs H1 ρ1 x1 r1 v1 => ?_) fun _ _ q => q⟩
  obtain ⟨ps, e1, h2⟩ := h1.opt
  obtain ⟨xs, e3, h2⟩ := h2.opt
  have hp := derefs_rep r1 v1 e1
  have fin : ∀ ys, RepL X.K H1 (Bd F ρ1) xs ys → ∀ l, H1 l = none → Q (.ref l) (upd H1 l (.lst ys)) := fun ys ry p np => by
    have px : Xt H1 ρ1 (upd H1 p (.lst ys)) (ρ1 ++ [some p]) := push_xt np
    refine KV1.xt x1 (show KV1 X.K H F ρ Q (.ref S1.length) (S1 ++ [.pl xs]) from h2) _ _ (ρ1 ++ [some p]) px (push_rl r1 np ⟨ys, upd_same, ry.xt px⟩) ⟨?_, fun a ha => ?_⟩
    · rw [← r1.len]; simp
    · rw [← r1.len, List.getElem?_append_right (Nat.le_refl _), Nat.sub_self] at ha
      cases ha; rfl
  unfold seqOfP at e3
  split at e3
  · cases e3
    cases hp with
    | cons h t =>
      cases t
      obtain ⟨a, ys, rfl, h1, n1, r1⟩ := h.tup
      exact ⟨a, ys, rfl, .inr (SqT.of h1), fin ys r1⟩
  · cases e3
    cases hp with
    | cons h t =>
      cases t
      obtain ⟨a, ys, rfl, h1, r1⟩ := h.lstI
      exact ⟨a, ys, rfl, .inl (SqL.of h1), fin ys r1⟩
  · cases e3
/-! ### not x, by its truth -/
def mNotT (m : EM) : EM := fun env S => bnd (m env S) fun v S1 => (truthV S1 v).bind fun b => ret1 (.bl (!b)) S1
theorem de_notT {a : Expr} {m : EM} {pos : Pos} (ha : DE X W a m) : DE X W (.UnaryOp .Not a pos) (mNotT m) := by
  refine PE.imp (pe_notT ha) fun σ H Q ⟨F, ρ, env, S, r, e, h⟩ => ?_
  unfold mNotT at h
  refine ⟨F, ρ, env, S, r, e, h.bnd.imp (fun d S1 h1 v H1 ρ1 x1 r1 v1 => ?_) fun _ _ q => q⟩
  obtain ⟨b, e1, h2⟩ := h1.opt
  exact ⟨b, truth_rep r1 v1 e1, (show KV1 X.K H F ρ Q (.p (.bl (!b))) S1 from h2) _ H1 ρ1 x1 r1 (.bl _)⟩
end
end Z

end
section
namespace Z
open PySem L2
def b_l_rows : SM :=
    sSeq (sSet 2 (mLst [mTup []]))
    (sSeq (sFor (.nm 3) (iRange1 (mVar 0)) (sSeq (sSet 4 (mLst []))
      (sSeq (sFor (.nm 5) (iSeq (mVar 2)) (sSet 4 (mP2 addP (mVar 4) (mLc [6] (.nm 6) (iRange1 (mVar 1)) (tYesM) (mP2 addP (mVar 5) (mTup [mVar 6]))))) [5])
      (sSet 2 (mVar 4)))) [3, 4, 5])
    (sRet (mVar 2)))
def f_l_rows : Fn := runF 7 (b_l_rows)
def b_l_fits : SM :=
    sSeq (sFor (.tp [.nm 2, .nm 3, .nm 4]) (iSeq (mP2 idxP (mVar 0) (mC (.int 2)))) (sIf (tB (mP2 neP (mP2 modP (mP2 subP (mPn sumP [mSl (mVar 1) (some (mVar 2)) (some (mVar 3))]) (mVar 4)) (mP2 idxP (mVar 0) (mC (.int 1)))) (mC (.int 0)))) (sRet (mC (.bl false))) (sPass)) [2, 3, 4])
    (sRet (mC (.bl true)))
def f_l_fits : Fn := runF 5 (b_l_fits)
def b_l_fitting : SM :=
    sRet (mLc [1] (.nm 1) (iSeq (mCall f_l_rows [mP2 idxP (mVar 0) (mC (.int 0)), mP2 idxP (mVar 0) (mC (.int 1))])) (tTr (mCall f_l_fits [mVar 0, mVar 1])) (mVar 1))
def f_l_fitting : Fn := runF 2 (b_l_fitting)
def b_l_small (d : Fn) : SM :=
    sSeq (sAsg (.tp [.nm 3, .nm 4]) (mCall (f_l_pick d) [mVar 0, mVar 1, mLst [mTup [mC (.int 1), mC (.int 5)], mTup [mC (.int 2), mC (.int 4)], mTup [mC (.int 3), mC (.int 3)], mTup [mC (.int 4), mC (.int 3)], mTup [mC (.int 5), mC (.int 2)], mTup [mC (.int 6), mC (.int 2)], mTup [mC (.int 4), mC (.int 2)], mTup [mC (.int 3), mC (.int 4)]]]))
    (sRet (mCall (f_l_sheet d) [mVar 0, mVar 1, mVar 3, mVar 4, mVar 2]))
def f_l_small (d : Fn) : Fn := runF 5 (b_l_small d)
def b_lowered : SM :=
    sSeq (sIf (tB (mP2 neP (mP2 modP (mP2 idxP (mVar 0) (mC (.int 1))) (mVar 1)) (mC (.int 0)))) (sRaise "NoRest") (sPass))
    (sRet (mTup [mP2 idxP (mVar 0) (mC (.int 0)), mVar 1, mPn tupleP [mLc [2, 3, 4] (.tp [.nm 2, .nm 3, .nm 4]) (iSeq (mP2 idxP (mVar 0) (mC (.int 2)))) (tYesM) (mTup [mVar 2, mVar 3, mP2 modP (mVar 4) (mVar 1)])]]))
def f_lowered : Fn := runF 5 (b_lowered)
def b_divisor : SM :=
    sSeq (sWhile 1000000 (tB (mP2 neP (mVar 1) (mC (.int 0)))) (sPar2 0 1 (mVar 1) (mP2 modP (mVar 0) (mVar 1))) [])
    (sRet (mVar 0))
def f_divisor : Fn := runF 2 (b_divisor)
def b_scaled : SM :=
    sSeq (sIf (tB (mP2 neP (mCall f_divisor [mP2 idxP (mVar 0) (mC (.int 1)), mVar 1]) (mC (.int 1)))) (sRaise "NoRest") (sPass))
    (sRet (mTup [mP2 idxP (mVar 0) (mC (.int 0)), mP2 idxP (mVar 0) (mC (.int 1)), mPn tupleP [mLc [2, 3, 4] (.tp [.nm 2, .nm 3, .nm 4]) (iSeq (mP2 idxP (mVar 0) (mC (.int 2)))) (tYesM) (mTup [mVar 2, mVar 3, mP2 modP (mP2 mulP (mVar 4) (mVar 1)) (mP2 idxP (mVar 0) (mC (.int 1)))])]]))
def f_scaled : Fn := runF 5 (b_scaled)
def b_turned : SM :=
    sSeq (sSet 1 (mP2 idxP (mVar 0) (mC (.int 0))))
    (sRet (mTup [mVar 1, mP2 idxP (mVar 0) (mC (.int 1)), mPn tupleP [mLc [2, 3, 4] (.tp [.nm 2, .nm 3, .nm 4]) (iSeq (mP2 idxP (mVar 0) (mC (.int 2)))) (tYesM) (mTup [mP2 subP (mVar 1) (mVar 3), mP2 subP (mVar 1) (mVar 2), mVar 4])]]))
def f_turned : Fn := runF 5 (b_turned)
end Z

end
section
namespace Z
open PySem L2
local macro_rules | `(tactic| tbr_iter [$ts,*]) => `(tactic| simp (disch := first | assumption | omega | (simp only [List.length_map, List.length_cons, List.length_nil, List.length_append, List.length_range, List.length_take, List.length_drop]; omega)) only [ev_var0s, ev_varS, ev_c, dr_p, dr_0, dr_S, pu_pl, pu_pd, pu_pdT, retO_s, ev_mv, fMv_ref, fMvx_s, ev_p1, fP1_ok, fP1d_s, ev_p2, fP2a_ok, fP2a_exc, fP2b_ok, fP2b_exc, fP2c_s, evs_nil, evs_cons, fEa_ok, fEa_exc, fEb_ok, fEb_exc, drs_nil, drs_cons, fDc_s, ev_pn, fPn_ok, fPn_exc, fPd_s, purs_nil, purs_cons, ev_tup, fTup_ok, fTup_exc, fTd_s, ev_lst, fLst_ok, fLst_exc, fLd_s, ev_newL, fNewL_ok, fNewL_exc, fNd_s, ev_newD, ev_and, fAnd_t, fAnd_f, fAnd_exc, ev_or, fOr_t, fOr_f, fOr_exc, ev_not, fNot_b, fNot_exc, ev_if, fIf_t, fIf_f, fIf_exc, ev_tB, ftB_b, ftB_exc, ev_tTr, ftT_ok, ftT_exc, ftTd_s, tr_non, tr_bl, tr_int, tr_tup, tr_lst, tr_0, tr_S, otr_pl, ev_tand, ftAnd_t, ftAnd_f, ftAnd_exc, ev_tor, ftOr_t, ftOr_f, ftOr_exc, ev_tnot, ftNot_b, ftNot_exc, ev_tyes, ev_sl, fSa_ok, fSa_exc, fSb_ok, fSc_ok, fSd_s, evO_n, evO_s, fO_i, ev_ch, fCa_ok, fCb_ok, fCc_t, fCc_f, ev_call, fCall_ok, fCall_exc, fRp_ok, fRp_exc, cv_1, cv_2, cv_3, cv_4, cv_5, fRt_ok, ev_lc, it_seq, fSeq_t, fSeq_l, it_en, fEn_t, fEn_l, it_r1, fR1_ok, it_r2, fR2a_ok, fR2b_ok, it_z, fZa_ok, fZb_t, fZb_l, ev_me, fMa_ok, fMb_t, fMc_ok, fMc_exc, la_0, la_r0, la_S, fPush_s, app_S, ext_S, W_seq, W_pass, Wn_cons, Wn_nil, W_set, wSet_ok, wSet_exc, W_expr, wEx_ok, wEx_exc, W_ret, wRet_ok, wRet_exc, W_if, wIf_t, wIf_f, wIf_exc, W_brk, W_cont, W_raise, W_asg, wAsg_ok, wAsg_exc, wA_s, asg_nm, asg_tp, asg_tpl, asgs_nil, asgs_cons, fAs_s, W_par2, wPa_ok, wPa_exc, wPb_ok, wPb_exc, clr_nil, clr_cons, W_for, wFor_ok, wFor_exc, IQ_nx, IQ_ct, IQ_bk, IQ_rt, IQ_ex, wB_s, lcE1_s, lcE2_t, lcE2_f, lcE3_s, fLm_s, fLt_s, fLc_ok, o_mod, o_fdiv, o_mulR, o_mulL, o_addT, o_addL, o_sumT, o_sumL, o_app, o_ext, cut_map, cut_0j, cut_i, atI_map, atI_i, all_b, any_b, is_t, is_tl, is_ti, is_tb, is_tn, is_ts, is_i, is_ib, is_it, is_il, is_in, is_is, is_b, is_bi, is_bt, is_bl, is_bn, is_bs, tk_map, dp_map, app_map, neP_nn, neP_in, neP_ni, eqP_nn, eqP_in, eqP_ni, neP_bb, eqP_bb, ssm_fold, in_bl, ev_ixo, fIxa_ok, fIxb_bl, fIxc_s, addP_i, subP_i, negP_i, ltP_i, leP_i, gtP_i, geP_i, isP_n, isP_i, isP_b, isP_t, isP_l, isP_s, isNotP_n, isNotP_i, isNotP_b, isNotP_t, isNotP_l, isNotP_s, isP_bb, isNotP_bb, idxP_t, idxP_l, atI_0, atI_1, atI_2, sliceP_t, sliceP_l, lenP_t, lenP_l, lenP_f, tupleP_t, tupleP_l, listP_t, listP_l, minP_i, maxP_i, intP_i, intP_b, eqP_int, neP_int, List.set_cons_zero, List.set_cons_succ, List.length_cons, List.length_nil, List.map_cons, List.map_nil, List.length_map, List.cons_append, List.nil_append, List.append_nil, Option.map_some, Int.toNat_natCast, Int.reduceToNat, List.getElem?_map, List.getElem?_cons_zero, List.getElem?_cons_succ, List.replicate_zero, List.replicate_succ, Nat.sub_self, Nat.reduceSub, Nat.reduceAdd, Bool.not_true, Bool.not_false, List.take_zero, List.take_succ_cons, and_true, true_and, decide_true, decide_false, Int.cast_ofNat_Int, Int.reduceEq, Int.reduceNe, Int.reduceLT, Int.reduceLE, $[$ts:term],*])
section
variable {env : Env} {S S1 S2 S3 : List O} {v u w : Val} {x y z : P} {c : Str} {ks : List SM} {Q : FQ}
/-! not, by truth -/
def fNotT (o : Out Val) : Out Val := bnd o fun v S1 => (truthV S1 v).bind fun b => ret1 (.bl (!b)) S1
def fNotTd (o : Option Bool) (S : List O) : Out Val := o.bind fun b => ret1 (.bl (!b)) S
theorem ev_notT {m : EM} : mNotT m env S = fNotT (m env S) := id rfl
theorem fNotT_ok : fNotT (some (.ok v, S)) = fNotTd (truthV S v) S := id rfl
theorem fNotTd_s {b : Bool} : fNotTd (some b) S = some (.ok (.p (.bl (!b))), S) := id rfl
/-! three at once -/
def wP3a (i j l : Nat) (b d : EM) (ks : List SM) (Q : FQ) (env : Env) (o : Out Val) : Prop := Wr ks Q (stm env o fun v S1 => stm env (b env S1) fun u S2 => stm env (d env S2) fun w S3 => some (.nx (((env.set i (some v)).set j (some u)).set l (some w)), S3))
def wP3b (i j l : Nat) (v : Val) (d : EM) (ks : List SM) (Q : FQ) (env : Env) (o : Out Val) : Prop := Wr ks Q (stm env o fun u S2 => stm env (d env S2) fun w S3 => some (.nx (((env.set i (some v)).set j (some u)).set l (some w)), S3))
def wP3c (i j l : Nat) (v u : Val) (ks : List SM) (Q : FQ) (env : Env) (o : Out Val) : Prop := Wr ks Q (stm env o fun w S3 => some (.nx (((env.set i (some v)).set j (some u)).set l (some w)), S3))
theorem W_par3 {i j l : Nat} {a b d : EM} : W (sPar3 i j l a b d) ks Q env S = wP3a i j l b d ks Q env (a env S) := id rfl
theorem wP3a_ok {i j l : Nat} {b d : EM} : wP3a i j l b d ks Q env (some (.ok v, S)) = wP3b i j l v d ks Q env (b env S) := id rfl
theorem wP3b_ok {i j l : Nat} {d : EM} : wP3b i j l v d ks Q env (some (.ok u, S)) = wP3c i j l v u ks Q env (d env S) := id rfl
theorem wP3c_ok {i j l : Nat} : wP3c i j l v u ks Q env (some (.ok w, S)) = Wn ks Q (((env.set i (some v)).set j (some u)).set l (some w)) S := id rfl
/-! ranges as data -/
def fG1 (o : Out Val) : Out (Int × Int) := bnd o fun v S1 => match v with
  | .p (.int j) => if smB j = true then some (.ok (0, j), S1) else none
  | _ => none
theorem ev_rg1 {m : EM} : rg1 m env S = fG1 (m env S) := id rfl
theorem fG1_ok {j : Int} (h1 : -1000000 ≤ j) (h2 : j ≤ 1000000) : fG1 (some (.ok (.p (.int j)), S)) = some (.ok (0, j), S) := if_pos (smB_lit h1 h2)
def fG2a (b : EM) (env : Env) (o : Out Val) : Out (Int × Int) := bnd o fun v S1 => bnd (b env S1) fun u S2 => match v, u with
  | .p (.int i), .p (.int j) => if smB i = true ∧ smB j = true then some (.ok (i, j), S2) else none
  | _, _ => none
def fG2b (v : Val) (o : Out Val) : Out (Int × Int) := bnd o fun u S2 => match v, u with
  | .p (.int i), .p (.int j) => if smB i = true ∧ smB j = true then some (.ok (i, j), S2) else none
  | _, _ => none
theorem ev_rg2 {a b : EM} : rg2 a b env S = fG2a b env (a env S) := id rfl
theorem fG2a_ok {b : EM} : fG2a b env (some (.ok v, S)) = fG2b v (b env S) := id rfl
theorem fG2b_ok {i j : Int} (h1 : -1000000 ≤ i) (h2 : i ≤ 1000000) (h3 : -1000000 ≤ j) (h4 : j ≤ 1000000) : fG2b (.p (.int i)) (some (.ok (.p (.int j)), S)) = some (.ok (i, j), S) := if_pos ⟨smB_lit h1 h2, smB_lit h3 h4⟩
def fLR (o : Out (Int × Int)) : Out Val := bnd o fun q S1 => if smB q.1 = true ∧ smB q.2 = true then ret1 (.lst (rngL q.1 (q.2 - q.1).toNat)) S1 else none
def fTR (o : Out (Int × Int)) : Out Val := bnd o fun q S1 => if smB q.1 = true ∧ smB q.2 = true then ret1 (.tup (rngL q.1 (q.2 - q.1).toNat)) S1 else none
def fNR (o : Out (Int × Int)) : Out Val := bnd o fun q S1 => if smB q.1 = true ∧ smB q.2 = true then some (.ok (.ref S1.length), S1 ++ [.pl (rngL q.1 (q.2 - q.1).toNat)]) else none
theorem ev_lstRg {m : RM} : mLstRg m env S = fLR (m env S) := id rfl
theorem ev_tupRg {m : RM} : mTupRg m env S = fTR (m env S) := id rfl
theorem ev_newRg {m : RM} : mNewRg m env S = fNR (m env S) := id rfl
theorem fLR_ok {i j : Int} (h1 : -1000000 ≤ i) (h2 : i ≤ 1000000) (h3 : -1000000 ≤ j) (h4 : j ≤ 1000000) : fLR (some (.ok (i, j), S)) = some (.ok (.p (.lst (rngL i (j - i).toNat))), S) := if_pos ⟨smB_lit h1 h2, smB_lit h3 h4⟩
theorem fTR_ok {i j : Int} (h1 : -1000000 ≤ i) (h2 : i ≤ 1000000) (h3 : -1000000 ≤ j) (h4 : j ≤ 1000000) : fTR (some (.ok (i, j), S)) = some (.ok (.p (.tup (rngL i (j - i).toNat))), S) := if_pos ⟨smB_lit h1 h2, smB_lit h3 h4⟩
theorem fNR_ok {i j : Int} (h1 : -1000000 ≤ i) (h2 : i ≤ 1000000) (h3 : -1000000 ≤ j) (h4 : j ≤ 1000000) : fNR (some (.ok (i, j), S)) = some (.ok (.ref S.length), S ++ [.pl (rngL i (j - i).toNat)]) := if_pos ⟨smB_lit h1 h2, smB_lit h3 h4⟩
/-! list(x) as a new thing -/
def fNO (o : Out (List Val)) : Out Val := bnd o fun vs S1 => (derefs S1 vs).bind fun ps => (seqOfP ps).bind fun xs => some (.ok (.ref S1.length), S1 ++ [.pl xs])
def fNOd (o : Option (List P)) (S : List O) : Out Val := o.bind fun ps => (seqOfP ps).bind fun xs => some (.ok (.ref S.length), S ++ [.pl xs])
theorem ev_newOf {ms : List EM} : mNewOf ms env S = fNO (evs ms env S) := id rfl
theorem fNO_ok {vs : List Val} : fNO (some (.ok vs, S)) = fNOd (derefs S vs) S := id rfl
theorem fNOd_t {xs : List P} : fNOd (some [.tup xs]) S = some (.ok (.ref S.length), S ++ [.pl xs]) := id rfl
theorem fNOd_l {xs : List P} : fNOd (some [.lst xs]) S = some (.ok (.ref S.length), S ++ [.pl xs]) := id rfl
/-! xs[i] = x -/
def setS : Nat → Int → P → List O → Option (List O)
  | 0, n, x, .pl xs :: S => (ixN xs.length n).map fun j => .pl (xs.set j x) :: S
  | r + 1, n, x, o :: S => (setS r n x S).map (o :: ·)
  | _, _, _, _ => none
theorem setS_0 {n : Int} {xs : List P} (h0 : 0 ≤ n) (h1 : n < xs.length) : setS 0 n x (.pl xs :: S) = some (.pl (xs.set n.toNat x) :: S) := by
  show (ixN xs.length n).map (fun j => O.pl (xs.set j x) :: S) = _
  unfold ixN
  rw [if_pos h0, if_pos h1]; rfl
theorem setS_S {r : Nat} {n : Int} {o : O} : setS (r + 1) n x (o :: S) = (setS r n x S).map (o :: ·) := id rfl
theorem setS_ok : ∀ (r : Nat) (n : Int) (S S' : List O), setS r n x S = some S' → ∃ xs j, S[r]? = some (.pl xs) ∧ ixN xs.length n = some j ∧ S.set r (.pl (xs.set j x)) = S'
  | 0, n, .pl xs :: S, S', h => by
    obtain ⟨j, h1, h2⟩ := Option.map_eq_some_iff.mp (show (ixN xs.length n).map (fun j => O.pl (xs.set j x) :: S) = some S' from h)
    exact ⟨xs, j, rfl, h1, h2⟩
  | r + 1, n, o :: S, S', h => by
    rw [setS_S] at h
    obtain ⟨T, h1, rfl⟩ := Option.map_eq_some_iff.mp h
    obtain ⟨xs, j, h2, h3, h4⟩ := setS_ok r n S T h1
    exact ⟨xs, j, by rw [List.getElem?_cons_succ]; exact h2, h3, by rw [List.set_cons_succ, h4]⟩
  | _, _, [], _, h => by rename_i n _ _; cases n <;> cases h
  | 0, _, .gone :: _, _, h => by cases h
  | 0, _, .rl _ :: _, _, h => by cases h
  | 0, _, .pd _ :: _, _, h => by cases h
  | 0, _, .pdT _ :: _, _, h => by cases h
def wS1 (o i : EM) (ks : List SM) (Q : FQ) (env : Env) (e : Out Val) : Prop := Wr ks Q (stm env e fun u S1 => stm env (o env S1) fun v S2 => stm env (i env S2) fun k S3 => match v, k, u with
  | .ref r, .p (.int n), .p x => match S3[r]? with
    | some (.pl xs) => (ixN xs.length n).bind fun j => some (.nx env, S3.set r (.pl (xs.set j x)))
    | _ => none
  | _, _, _ => none)
def wS2 (i : EM) (u : Val) (ks : List SM) (Q : FQ) (env : Env) (e : Out Val) : Prop := Wr ks Q (stm env e fun v S2 => stm env (i env S2) fun k S3 => match v, k, u with
  | .ref r, .p (.int n), .p x => match S3[r]? with
    | some (.pl xs) => (ixN xs.length n).bind fun j => some (.nx env, S3.set r (.pl (xs.set j x)))
    | _ => none
  | _, _, _ => none)
def wS3 (v u : Val) (ks : List SM) (Q : FQ) (env : Env) (e : Out Val) : Prop := Wr ks Q (stm env e fun k S3 => match v, k, u with
  | .ref r, .p (.int n), .p x => match S3[r]? with
    | some (.pl xs) => (ixN xs.length n).bind fun j => some (.nx env, S3.set r (.pl (xs.set j x)))
    | _ => none
  | _, _, _ => none)
def wS4 (ks : List SM) (Q : FQ) (env : Env) (o : Option (List O)) : Prop := match o with
  | some S => Wn ks Q env S
  | none => False
theorem W_sub {o i e : EM} : W (mSub o i e) ks Q env S = wS1 o i ks Q env (e env S) := id rfl
theorem wS1_ok {o i : EM} : wS1 o i ks Q env (some (.ok u, S)) = wS2 i u ks Q env (o env S) := id rfl
theorem wS2_ok {i : EM} : wS2 i u ks Q env (some (.ok v, S)) = wS3 v u ks Q env (i env S) := id rfl
theorem wS3_ok {r : Nat} {n : Int} : wS3 (.ref r) (.p x) ks Q env (some (.ok (.p (.int n)), S)) = wS4 ks Q env (setS r n x S) := by
  show Wr ks Q (match S[r]? with
    | some (.pl xs) => (ixN xs.length n).bind fun j => some (.nx env, S.set r (.pl (xs.set j x)))
    | _ => none) = _
  cases hs : setS r n x S with
  | some S' =>
    obtain ⟨xs, j, h1, h2, h3⟩ := setS_ok r n S S' hs
    rw [h1]
    simp only [h2, Option.bind_some, h3]
    rfl
  | none =>
    have : (match S[r]? with
      | some (.pl xs) => (ixN xs.length n).bind fun j => some (Fl.nx env, S.set r (.pl (xs.set j x)))
      | _ => none) = none := by
      induction r generalizing S with
      | zero =>
        cases S with
        | nil => rfl
        | cons o S =>
          cases o with
          | pl xs =>
            have hs : (ixN xs.length n).map (fun j => O.pl (xs.set j x) :: S) = none := hs
            rw [Option.map_eq_none_iff] at hs
            simp [hs]
          | _ => rfl
      | succ r ih =>
        cases S with
        | nil => rfl
        | cons o S =>
          rw [setS_S, Option.map_eq_none_iff] at hs
          have := ih hs
          rw [List.getElem?_cons_succ]
          cases hr : S[r]? with
          | none => rfl
          | some p =>
            rw [hr] at this
            cases p with
            | pl xs =>
              have this : ((ixN xs.length n).bind fun j => some (Fl.nx env, S.set r (.pl (xs.set j x)))) = none := this
              cases hi : ixN xs.length n with
              | none => simp only [hi]; rfl
              | some j => rw [hi] at this; cases this
            | _ => rfl
    rw [this]
    cases ks <;> rfl
theorem wS4_s : wS4 ks Q env (some S) = Wn ks Q env S := id rfl
/-! try -/
def wTr (hs : List (Str × SM)) (c : Str) (ks : List SM) (Q : FQ) (e : Env) (S : List O) : Prop := Wr ks Q (trH hs c e S)
def TQ (kn : List Str) (hs : List (Str × SM)) (ks : List SM) (Q : FQ) : FQ
  | .nx e, S => Wn ks Q e S
  | .ex c e, S => c ∈ kn ∧ wTr hs c ks Q e S
  | .rt v, S => Q (.rt v) S
  | .bk e, S => Q (.bk e) S
  | .ct e, S => Q (.ct e) S
theorem TQ_nx {kn : List Str} {hs : List (Str × SM)} {e : Env} : TQ kn hs ks Q (.nx e) S = Wn ks Q e S := id rfl
theorem TQ_rt {kn : List Str} {hs : List (Str × SM)} : TQ kn hs ks Q (.rt v) S = Q (.rt v) S := id rfl
theorem TQ_ex {kn : List Str} {hs : List (Str × SM)} {e : Env} (h : c ∈ kn) : TQ kn hs ks Q (.ex c e) S = wTr hs c ks Q e S := by
  show (c ∈ kn ∧ wTr hs c ks Q e S) = _
  simp [h]
theorem W_try {kn : List Str} {hs : List (Str × SM)} {a : SM} (h : W a [] (TQ kn hs ks Q) env S) : W (sTry kn hs a) ks Q env S := by
  unfold W sTry at *
  cases ha : a env S with
  | none => rw [ha] at h; exact h.elim
  | some r =>
    obtain ⟨f, S1⟩ := r
    rw [ha] at h
    cases f with
    | nx e => exact h
    | rt v => exact Wr_rt.mpr h
    | bk e => exact Wr_bk.mpr h
    | ct e => exact Wr_ct.mpr h
    | ex c e =>
      obtain ⟨h1, h2⟩ := h
      show Wr ks Q (if c ∈ kn then trH hs c e S1 else none)
      rw [if_pos h1]
      exact h2
theorem wTr_hit {b : SM} {r : List (Str × SM)} {e : Env} : wTr ((c, b) :: r) c ks Q e S = W b ks Q e S := by
  unfold wTr trH
  rw [if_pos rfl]; rfl
theorem wTr_miss {b : SM} {d : Str} {r : List (Str × SM)} {e : Env} (h : c ≠ d) : wTr ((d, b) :: r) c ks Q e S = wTr r c ks Q e S := by
  unfold wTr
  rw [trH, if_neg h]
theorem wTr_nil {e : Env} : wTr [] c ks Q e S = Q (.ex c e) S := Wr_ex
theorem fn_Wex {k : Nat} {b : SM} {vs : List Val} (h : W b [] (fun r S' => (∃ e, r = .ex c e) ∧ S'.take S.length = S1) (vs.map some ++ List.replicate (k - vs.length) none) S) (hc : closeO S1 = true) : runF k b vs S = some (.exc c, S1) := by
  unfold W at h
  unfold runF
  cases hb : b (vs.map some ++ List.replicate (k - vs.length) none) S with
  | none => rw [hb] at h; exact h.elim
  | some r =>
    obtain ⟨f, S'⟩ := r
    rw [hb] at h
    obtain ⟨⟨e, rfl⟩, h2⟩ := h
    simp only [h2, hc, if_true]
end
theorem rv_t {xs : List P} : revP (.tup xs) = some (.tup xs.reverse) := rfl
theorem rv_l {xs : List P} : revP (.lst xs) = some (.lst xs.reverse) := rfl
theorem rv_map {α β : Type} (f : α → β) (xs : List α) : (xs.map f).reverse = (xs.reverse).map f := List.map_reverse.symm
/-! texts beside other things -/
theorem lay_any {n : Nat} (x : Str) : lay n (.str x) = x.cps.all (· < 0x110000) := by cases n <;> rfl
theorem sneP {xs : List P} {x : Str} (h : lay 16 (.tup xs) = true) (hx : x.cps.all (· < 0x110000) = true) : neP (.tup xs) (.str x) = some (.bl true) := by
  unfold neP
  rw [h, lay_any, hx]; rfl
theorem sneS {x : Str} (hx : x.cps.all (· < 0x110000) = true) : neP (.str x) (.str x) = some (.bl false) := by
  unfold neP
  rw [lay_any, hx]
  simp [eqB]
end Z

end
section
namespace Z
open PySem L2
local macro_rules | `(tactic| tbr_iter [$ts,*]) => `(tactic| simp (disch := first | assumption | omega | decide | (simp only [List.length_map, List.length_cons, List.length_nil, List.length_append, List.length_range, List.length_take, List.length_drop]; omega)) only [ev_var0s, ev_varS, ev_c, dr_p, dr_0, dr_S, pu_pl, pu_pd, pu_pdT, retO_s, ev_mv, fMv_ref, fMvx_s, ev_p1, fP1_ok, fP1d_s, ev_p2, fP2a_ok, fP2a_exc, fP2b_ok, fP2b_exc, fP2c_s, evs_nil, evs_cons, fEa_ok, fEa_exc, fEb_ok, fEb_exc, drs_nil, drs_cons, fDc_s, ev_pn, fPn_ok, fPn_exc, fPd_s, purs_nil, purs_cons, ev_tup, fTup_ok, fTup_exc, fTd_s, ev_lst, fLst_ok, fLst_exc, fLd_s, ev_newL, fNewL_ok, fNewL_exc, fNd_s, ev_newD, ev_and, fAnd_t, fAnd_f, fAnd_exc, ev_or, fOr_t, fOr_f, fOr_exc, ev_not, fNot_b, fNot_exc, ev_if, fIf_t, fIf_f, fIf_exc, ev_tB, ftB_b, ftB_exc, ev_tTr, ftT_ok, ftT_exc, ftTd_s, tr_non, tr_bl, tr_int, tr_tup, tr_lst, tr_0, tr_S, otr_pl, ev_tand, ftAnd_t, ftAnd_f, ftAnd_exc, ev_tor, ftOr_t, ftOr_f, ftOr_exc, ev_tnot, ftNot_b, ftNot_exc, ev_tyes, ev_sl, fSa_ok, fSa_exc, fSb_ok, fSc_ok, fSd_s, evO_n, evO_s, fO_i, ev_ch, fCa_ok, fCb_ok, fCc_t, fCc_f, ev_call, fCall_ok, fCall_exc, fRp_ok, fRp_exc, cv_1, cv_2, cv_3, cv_4, cv_5, fRt_ok, ev_lc, it_seq, fSeq_t, fSeq_l, it_en, fEn_t, fEn_l, it_r1, fR1_ok, it_r2, fR2a_ok, fR2b_ok, it_z, fZa_ok, fZb_t, fZb_l, ev_me, fMa_ok, fMb_t, fMc_ok, fMc_exc, la_0, la_r0, la_S, fPush_s, app_S, ext_S, W_seq, W_pass, Wn_cons, Wn_nil, W_set, wSet_ok, wSet_exc, W_expr, wEx_ok, wEx_exc, W_ret, wRet_ok, wRet_exc, W_if, wIf_t, wIf_f, wIf_exc, W_brk, W_cont, W_raise, W_asg, wAsg_ok, wAsg_exc, wA_s, asg_nm, asg_tp, asg_tpl, asgs_nil, asgs_cons, fAs_s, W_par2, wPa_ok, wPa_exc, wPb_ok, wPb_exc, clr_nil, clr_cons, W_for, wFor_ok, wFor_exc, IQ_nx, IQ_ct, IQ_bk, IQ_rt, IQ_ex, wB_s, lcE1_s, lcE2_t, lcE2_f, lcE3_s, fLm_s, fLt_s, fLc_ok, o_mod, o_fdiv, o_mulR, o_mulL, o_addT, o_addL, o_sumT, o_sumL, o_app, o_ext, cut_map, cut_0j, cut_i, atI_map, atI_i, all_b, any_b, is_t, is_tl, is_ti, is_tb, is_tn, is_ts, is_i, is_ib, is_it, is_il, is_in, is_is, is_b, is_bi, is_bt, is_bl, is_bn, is_bs, tk_map, dp_map, app_map, neP_nn, neP_in, neP_ni, eqP_nn, eqP_in, eqP_ni, neP_bb, eqP_bb, ssm_fold, in_bl, ev_ixo, fIxa_ok, fIxb_bl, fIxc_s, ev_notT, fNotT_ok, fNotTd_s, W_par3, wP3a_ok, wP3b_ok, wP3c_ok, ev_rg1, fG1_ok, ev_rg2, fG2a_ok, fG2b_ok, ev_lstRg, ev_tupRg, ev_newRg, fLR_ok, fTR_ok, fNR_ok, ev_newOf, fNO_ok, fNOd_t, fNOd_l, setS_0, setS_S, W_sub, wS1_ok, wS2_ok, wS3_ok, wS4_s, TQ_nx, TQ_rt, TQ_ex, wTr_hit, wTr_miss, wTr_nil, rv_t, rv_l, rv_map, notIn_key, in_key, addP_i, subP_i, negP_i, ltP_i, leP_i, gtP_i, geP_i, isP_n, isP_i, isP_b, isP_t, isP_l, isP_s, isNotP_n, isNotP_i, isNotP_b, isNotP_t, isNotP_l, isNotP_s, isP_bb, isNotP_bb, idxP_t, idxP_l, atI_0, atI_1, atI_2, sliceP_t, sliceP_l, lenP_t, lenP_l, lenP_f, tupleP_t, tupleP_l, listP_t, listP_l, minP_i, maxP_i, intP_i, intP_b, eqP_int, neP_int, List.set_cons_zero, List.set_cons_succ, List.length_cons, List.length_nil, List.map_cons, List.map_nil, List.length_map, List.cons_append, List.nil_append, List.append_nil, Option.map_some, Int.toNat_natCast, Int.reduceToNat, List.getElem?_map, List.getElem?_cons_zero, List.getElem?_cons_succ, List.replicate_zero, List.replicate_succ, Nat.sub_self, Nat.reduceSub, Nat.reduceAdd, Bool.not_true, Bool.not_false, List.take_zero, List.take_succ_cons, and_true, true_and, decide_true, decide_false, Int.cast_ofNat_Int, Int.reduceEq, Int.reduceNe, Int.reduceLT, Int.reduceLE, $[$ts:term],*])
theorem ssm_nat (r : List Int) (i j : Int) (h : 0 ≤ i) (h2 : 0 ≤ j) : ssm r i j = ((r.drop i.toNat).take (j.toNat - i.toNat)).sum := by
  unfold ssm
  rw [cut_ij h h2]
theorem ssm_add (r : List Int) (a b c : Int) (h0 : 0 ≤ a) (h1 : a ≤ c) (h2 : c ≤ b) : ssm r a b = ssm r a c + ssm r c b := by
  rw [ssm_nat r a b h0 (by omega), ssm_nat r a c h0 (by omega), ssm_nat r c b (by omega) (by omega)]
  have e1 : b.toNat - a.toNat = (c.toNat - a.toNat) + (b.toNat - c.toNat) := by omega
  have e2 : c.toNat = a.toNat + (c.toNat - a.toNat) := by omega
  rw [e1, List.take_add, List.sum_append, List.drop_drop]
  congr 4
  omega
def gcdI (a b : Int) : Int := (Nat.gcd a.toNat b.toNat : Nat)
theorem gcdI_step {a b : Int} (ha : 0 ≤ a) (hb : 0 < b) : gcdI b (a % b) = gcdI a b := by
  unfold gcdI
  have h : (a % b).toNat = a.toNat % b.toNat := by
    have := Int.toNat_emod ha (Int.le_of_lt hb)
    exact this
  rw [h, Nat.gcd_comm a.toNat, Nat.gcd_rec b.toNat a.toNat, Nat.gcd_comm b.toNat]
theorem divisor_eq (a b : Int) (ha : 0 ≤ a) (hb : 0 ≤ b) (hb2 : b < 900000) : f_divisor [.p (.int a), .p (.int b)] [] = some (.ok (.p (.int (gcdI a b))), []) := by
  refine fn_W (k := 2) ?_ rfl
  unfold b_divisor
  tbr_iter []
  refine W_while (σ := Int × Int) 1000000 (fun s => [some (.p (.int s.1)), some (.p (.int s.2))]) (fun _ => []) (fun s => 0 ≤ s.1 ∧ 0 ≤ s.2 ∧ gcdI s.1 s.2 = gcdI a b) (fun s => s.2.toNat) (a, b) (by simp only; omega) rfl rfl ⟨ha, hb, rfl⟩ ?_
  rintro ⟨x, y⟩ ⟨h1, h2, h3⟩
  simp only at h1 h2 h3
  tbr_iter []
  rw [wWh_c]
  refine ⟨fun h => ?_, fun h => ?_⟩
  · have h : ¬ y = 0 := by simpa using h
    have hy : 0 < y := by omega
    have e0 := Int.emod_nonneg x (show y ≠ 0 by omega)
    have e1 := Int.emod_lt_of_pos x hy
    tbr_iter []
    exact ⟨(y, x % y), rfl, ⟨by simp only; omega, e0, by simp only; rw [gcdI_step h1 hy, h3]⟩, by simp only; omega⟩
  · have h : y = 0 := by simpa using h
    subst h
    tbr_iter []
    rw [← h3]
    simp [gcdI, Int.toNat_of_nonneg h1]
theorem lowered_eq (l m b : Int) (fs : List F3) (hb : 0 < b) (hd : m % b = 0) (hf : fs.length ≤ 1000000) : f_lowered [.p (sP l m fs), .p (.int b)] [] = some (.ok (.p (sP l b (fs.map fun f => (f.1, f.2.1, f.2.2 % b)))), []) := by
  refine fn_W (k := 5) ?_ rfl
  unfold b_lowered
  tbr_iter [hd]
  generalize hL : lcL _ _ _ _ _ _ _ = L
  obtain rfl := lcM hL (fun f => fP (f.1, f.2.1, f.2.2 % b)) (by intro f _; tbr_iter []) hf
  tbr_iter []
  simp [Function.comp_def]
theorem lowered_no (l m b : Int) (fs : List F3) (hb : 0 < b) (hd : ¬ m % b = 0) : f_lowered [.p (sP l m fs), .p (.int b)] [] = some (.exc "NoRest", []) := by
  refine fn_Wex (k := 5) ?_ rfl
  unfold b_lowered
  tbr_iter [hd]
  exact ⟨_, rfl⟩
theorem scaled_eq (l m t : Int) (fs : List F3) (hm : 0 < m) (ht : 0 ≤ t) (ht2 : t < 900000) (hd : gcdI m t = 1) (hf : fs.length ≤ 1000000) : f_scaled [.p (sP l m fs), .p (.int t)] [] = some (.ok (.p (sP l m (fs.map fun f => (f.1, f.2.1, f.2.2 * t % m)))), []) := by
  refine fn_W (k := 5) ?_ rfl
  unfold b_scaled
  tbr_iter [divisor_eq, hd]
  generalize hL : lcL _ _ _ _ _ _ _ = L
  obtain rfl := lcM hL (fun f => fP (f.1, f.2.1, f.2.2 * t % m)) (by intro f _; tbr_iter []) hf
  tbr_iter []
  simp [Function.comp_def]
theorem scaled_no (l m t : Int) (fs : List F3) (hm : 0 < m) (ht : 0 ≤ t) (ht2 : t < 900000) (hd : ¬ gcdI m t = 1) : f_scaled [.p (sP l m fs), .p (.int t)] [] = some (.exc "NoRest", []) := by
  refine fn_Wex (k := 5) ?_ rfl
  unfold b_scaled
  tbr_iter [divisor_eq, hd]
  exact ⟨_, rfl⟩
theorem turned_eq (l m : Int) (fs : List F3) (hf : fs.length ≤ 1000000) : f_turned [.p (sP l m fs)] [] = some (.ok (.p (sP l m (fs.map fun f => (l - f.2.1, l - f.1, f.2.2)))), []) := by
  refine fn_W (k := 5) ?_ rfl
  unfold b_turned
  tbr_iter []
  generalize hL : lcL _ _ _ _ _ _ _ = L
  obtain rfl := lcM hL (fun f => fP (l - f.2.1, l - f.1, f.2.2)) (by intro f _; tbr_iter []) hf
  tbr_iter []
  simp [Function.comp_def]
/-! rows by hand -/
def rowsL (b : Int) : Nat → List (List Int)
  | 0 => [[]]
  | k + 1 => (rowsL b k).flatMap fun r => (List.range b.toNat).map fun x : Nat => r ++ [(x : Int)]
theorem rowsL_len (b : Int) : ∀ k, (rowsL b k).length = b.toNat ^ k
  | 0 => rfl
  | k + 1 => by
    rw [rowsL, List.length_flatMap]
    simp only [List.length_map, List.length_range]
    rw [List.map_const', List.sum_replicate_nat, rowsL_len b k, Nat.pow_succ]
theorem rowsL_mem (b : Int) : ∀ k r, r ∈ rowsL b k ↔ r.length = k ∧ ∀ x ∈ r, 0 ≤ x ∧ x < b
  | 0, r => by
    rw [rowsL, List.mem_singleton]
    constructor
    · rintro rfl; exact ⟨rfl, by simp⟩
    · rintro ⟨h, _⟩; exact List.length_eq_zero_iff.mp h
  | k + 1, r => by
    rw [rowsL, List.mem_flatMap]
    constructor
    · rintro ⟨q, h1, h2⟩
      obtain ⟨x, h3, rfl⟩ := List.mem_map.mp h2
      have h3 := List.mem_range.mp h3
      obtain ⟨h4, h5⟩ := (rowsL_mem b k q).mp h1
      refine ⟨by simp [h4], fun y hy => ?_⟩
      rcases List.mem_append.mp hy with z | z
      · exact h5 y z
      · rw [List.mem_singleton.mp z]; omega
    · rintro ⟨h1, h2⟩
      have hn : r ≠ [] := by rintro rfl; simp at h1
      have e := List.dropLast_concat_getLast hn
      have hl := h2 (r.getLast hn) (List.getLast_mem hn)
      refine ⟨r.dropLast, (rowsL_mem b k _).mpr ⟨by simp [h1], fun x hx => h2 x (List.dropLast_subset _ hx)⟩, List.mem_map.mpr ⟨(r.getLast hn).toNat, List.mem_range.mpr (by omega), ?_⟩⟩
      rw [Int.toNat_of_nonneg hl.1]
      exact e
theorem rows_eq (l b : Int) (hl : 0 ≤ l) (hl2 : l ≤ 1000) (hb : 0 ≤ b) (hb2 : b ≤ 1000) (hs : ∀ k, k ≤ l.toNat → b.toNat ^ k ≤ 10000) : f_l_rows [.p (.int l), .p (.int b)] [] = some (.ok (.p (.lst ((rowsL b l.toNat).map rP))), []) := by
  refine fn_W (k := 7) ?_ rfl
  unfold b_l_rows
  tbr_iter []
  refine W_rng (σ := List (List Int)) 0 l.toNat (fun s => [some (.p (.int l)), some (.p (.int b)), some (.p (.lst (s.map rP))), none, none, none, none]) (fun _ => []) (fun i s => s = rowsL b i) [[]] rfl rfl rfl ?_ ?_
  · rintro i s hi rfl
    have hlen := rowsL_len b i
    have hlen1 := rowsL_len b (i + 1)
    have hz := hs i (by omega)
    have hz1 := hs (i + 1) (by omega)
    tbr_iter []
    refine W_pre (σ := List (List Int)) (rowsL b i) rP (fun s => [some (.p (.int l)), some (.p (.int b)), some (.p (.lst ((rowsL b i).map rP))), some (.p (.int (0 + (i : Int)))), some (.p (.lst (s.map rP))), none, none]) (fun _ => []) (fun d s => s = d.flatMap fun r => (List.range b.toNat).map fun x : Nat => r ++ [(x : Int)]) [] rfl rfl rfl ?_ ?_
    · rintro d r w s hd rfl
      have hrl : r.length = i := ((rowsL_mem b i r).mp (by rw [hd]; simp)).1
      tbr_iter []
      generalize hL : lcL _ _ _ _ _ _ _ = L
      obtain rfl := lcM hL (fun x : Nat => rP (r ++ [(x : Int)])) (by
        intro x _
        tbr_iter [Int.zero_add]
        simp) (by simp; omega)
      have hsz : (d.flatMap fun r => (List.range b.toNat).map fun x : Nat => r ++ [(x : Int)]).length + b.toNat ≤ 20000 := by
        have h1 : rowsL b (i + 1) = (d.flatMap fun r => (List.range b.toNat).map fun x : Nat => r ++ [(x : Int)]) ++ ((List.range b.toNat).map fun x : Nat => r ++ [(x : Int)]) ++ (w.flatMap fun r => (List.range b.toNat).map fun x : Nat => r ++ [(x : Int)]) := by
          rw [rowsL, hd, List.flatMap_append, List.flatMap_cons, List.append_assoc]
        rw [h1] at hlen1
        simp only [List.length_append, List.length_map, List.length_range] at hlen1
        omega
      tbr_iter []
      refine ⟨_, ?_, rfl⟩
      rw [List.flatMap_append, List.flatMap_cons, List.flatMap_nil, List.append_nil, List.map_append, List.map_map]
      rfl
    · rintro s rfl
      tbr_iter []
      exact ⟨_, rfl, rfl⟩
  · rintro s rfl
    tbr_iter []
/-- the hand's fits -/
theorem l_fits_eq (l m : Int) (fs : List F3) (r : List Int) (hm : 0 < m) (hg : ∀ f ∈ fs, 0 ≤ f.2.2 ∧ f.2.2 < m) : f_l_fits [.p (sP l m fs), .p (rP r)] [] = some (.ok (.p (.bl (fs.all (fitB m r)))), []) := by
  refine fn_W (k := 5) ?_ rfl
  unfold b_l_fits
  tbr_iter []
  have hiff : ∀ f ∈ fs, ((ssm r f.1 f.2.1 - f.2.2) % m = 0) ↔ fitB m r f = true := by
    intro f hf
    obtain ⟨h0, h1⟩ := hg f hf
    unfold fitB
    rw [decide_eq_true_eq, ← Int.emod_emod_of_dvd _ (Int.dvd_refl m), Int.sub_emod, Int.emod_eq_of_lt h0 h1]
    generalize hx : ssm r f.1 f.2.1 % m = x
    have x0 := Int.emod_nonneg (ssm r f.1 f.2.1) (show m ≠ 0 by omega)
    have x1 := Int.emod_lt_of_pos (ssm r f.1 f.2.1) hm
    rw [hx] at x0 x1
    constructor
    · intro h
      have h2 := Int.emod_emod_of_dvd (x - f.2.2) (Int.dvd_refl m)
      rw [h2] at h
      have := Int.dvd_of_emod_eq_zero h
      obtain ⟨k, hk⟩ := this
      have hk0 : k = 0 := by
        rcases Int.lt_trichotomy k 0 with z | z | z
        · have : m * k ≤ m * (-1) := Int.mul_le_mul_of_nonneg_left (by omega) (by omega)
          omega
        · exact z
        · have : m * 1 ≤ m * k := Int.mul_le_mul_of_nonneg_left (by omega) (by omega)
          omega
      rw [hk0, Int.mul_zero] at hk
      omega
    · intro h
      rw [h, Int.sub_self]; simp
  refine W_pre (σ := Unit) fs fP (fun _ => [some (.p (sP l m fs)), some (.p (rP r)), none, none, none]) (fun _ => []) (fun d _ => ∀ f ∈ d, fitB m r f = true) () rfl rfl (by simp) ?_ ?_
  · rintro d f w s hd hj
    have hmem : f ∈ fs := by rw [hd]; simp
    have := hiff f hmem
    tbr_iter []
    rw [wIf_c]
    refine ⟨fun h => ?_, fun h => ?_⟩
    · have h : ¬ (ssm r f.1 f.2.1 - f.2.2) % m = 0 := by simpa using h
      have hfalse : fs.all (fitB m r) = false := by
        rw [List.all_eq_false]
        exact ⟨f, hmem, fun z => h (this.mpr z)⟩
      tbr_iter [hfalse]
    · have h : (ssm r f.1 f.2.1 - f.2.2) % m = 0 := by simpa using h
      tbr_iter []
      refine ⟨(), fun g hg => ?_⟩
      rcases List.mem_append.mp hg with z | z
      · exact hj g z
      · rw [List.mem_singleton.mp z]; exact this.mp h
  · rintro s hj
    have : fs.all (fitB m r) = true := List.all_eq_true.mpr hj
    tbr_iter [this]
theorem small_eq {d : Fn} (hd : DrawOk d) (ns : List Int) (n : Nat) (most : Int) (h0 : 0 ≤ most) (h1 : most ≤ 1000) (hn : n < 600000) :
    ∃ l m fs n', f_l_small d [.p (.fz ns), .ref 0, .p (.int most)] [tw n] = some (.ok (.p (sP l m fs)), [tw n']) ∧ n' ≤ n + 20 + 4 * most.toNat ∧ 1 ≤ l ∧ l ≤ 6 ∧ 2 ≤ m ∧ m ≤ 5 ∧ (∀ k, k ≤ l.toNat → m.toNat ^ k ≤ 100) ∧ Gd l m fs ∧ (fs.length : Int) ≤ most := by
  obtain ⟨x, x0, e1⟩ := pick_eq hd ns n [.tup [.int 1, .int 5], .tup [.int 2, .int 4], .tup [.int 3, .int 3], .tup [.int 4, .int 3], .tup [.int 5, .int 2], .tup [.int 6, .int 2], .tup [.int 4, .int 2], .tup [.int 3, .int 4]] (by simp) (by omega)
  have pw : ∀ (a b : Nat), b ^ a ≤ 100 → 0 < b → ∀ k, k ≤ a → b ^ k ≤ 100 := fun a b h h2 k hk => Nat.le_trans (Nat.pow_le_pow_right h2 hk) h
  have hx : ∃ l m : Int, x = .tup [.int l, .int m] ∧ 1 ≤ l ∧ l ≤ 6 ∧ 2 ≤ m ∧ m ≤ 5 ∧ (∀ k, k ≤ l.toNat → m.toNat ^ k ≤ 100) := by
    simp only [List.mem_cons, List.not_mem_nil, or_false] at x0
    rcases x0 with q | q | q | q | q | q | q | q <;> exact ⟨_, _, q, by decide, by decide, by decide, by decide, pw _ _ (by decide) (by decide)⟩
  obtain ⟨l, m, rfl, l0, l1, m0, m1, hp⟩ := hx
  obtain ⟨fs, n', e5, g1, g2, g3⟩ := sheetA_eq hd ns (n + 1) l m most (by omega) (by omega) m0 h0 h1 (by omega)
  refine ⟨l, m, fs, n', ?_, by omega, l0, l1, m0, m1, hp, g2, g3⟩
  refine fn_W (k := 5) ?_ rfl
  unfold b_l_small
  tbr_iter [cvt1 e1, cvt3 e5]
end Z

end
section
namespace Z
open PySem L2
local macro_rules | `(tactic| tbr_iter [$ts,*]) => `(tactic| simp (disch := first | assumption | omega | decide | (simp only [List.length_map, List.length_cons, List.length_nil, List.length_append, List.length_range, List.length_take, List.length_drop]; omega)) only [ev_var0s, ev_varS, ev_c, dr_p, dr_0, dr_S, pu_pl, pu_pd, pu_pdT, retO_s, ev_mv, fMv_ref, fMvx_s, ev_p1, fP1_ok, fP1d_s, ev_p2, fP2a_ok, fP2a_exc, fP2b_ok, fP2b_exc, fP2c_s, evs_nil, evs_cons, fEa_ok, fEa_exc, fEb_ok, fEb_exc, drs_nil, drs_cons, fDc_s, ev_pn, fPn_ok, fPn_exc, fPd_s, purs_nil, purs_cons, ev_tup, fTup_ok, fTup_exc, fTd_s, ev_lst, fLst_ok, fLst_exc, fLd_s, ev_newL, fNewL_ok, fNewL_exc, fNd_s, ev_newD, ev_and, fAnd_t, fAnd_f, fAnd_exc, ev_or, fOr_t, fOr_f, fOr_exc, ev_not, fNot_b, fNot_exc, ev_if, fIf_t, fIf_f, fIf_exc, ev_tB, ftB_b, ftB_exc, ev_tTr, ftT_ok, ftT_exc, ftTd_s, tr_non, tr_bl, tr_int, tr_tup, tr_lst, tr_0, tr_S, otr_pl, ev_tand, ftAnd_t, ftAnd_f, ftAnd_exc, ev_tor, ftOr_t, ftOr_f, ftOr_exc, ev_tnot, ftNot_b, ftNot_exc, ev_tyes, ev_sl, fSa_ok, fSa_exc, fSb_ok, fSc_ok, fSd_s, evO_n, evO_s, fO_i, ev_ch, fCa_ok, fCb_ok, fCc_t, fCc_f, ev_call, fCall_ok, fCall_exc, fRp_ok, fRp_exc, cv_1, cv_2, cv_3, cv_4, cv_5, fRt_ok, ev_lc, it_seq, fSeq_t, fSeq_l, it_en, fEn_t, fEn_l, it_r1, fR1_ok, it_r2, fR2a_ok, fR2b_ok, it_z, fZa_ok, fZb_t, fZb_l, ev_me, fMa_ok, fMb_t, fMc_ok, fMc_exc, la_0, la_r0, la_S, fPush_s, app_S, ext_S, W_seq, W_pass, Wn_cons, Wn_nil, W_set, wSet_ok, wSet_exc, W_expr, wEx_ok, wEx_exc, W_ret, wRet_ok, wRet_exc, W_if, wIf_t, wIf_f, wIf_exc, W_brk, W_cont, W_raise, W_asg, wAsg_ok, wAsg_exc, wA_s, asg_nm, asg_tp, asg_tpl, asgs_nil, asgs_cons, fAs_s, W_par2, wPa_ok, wPa_exc, wPb_ok, wPb_exc, clr_nil, clr_cons, W_for, wFor_ok, wFor_exc, IQ_nx, IQ_ct, IQ_bk, IQ_rt, IQ_ex, wB_s, lcE1_s, lcE2_t, lcE2_f, lcE3_s, fLm_s, fLt_s, fLc_ok, o_mod, o_fdiv, o_mulR, o_mulL, o_addT, o_addL, o_sumT, o_sumL, o_app, o_ext, cut_map, cut_0j, cut_i, atI_map, atI_i, all_b, any_b, is_t, is_tl, is_ti, is_tb, is_tn, is_ts, is_i, is_ib, is_it, is_il, is_in, is_is, is_b, is_bi, is_bt, is_bl, is_bn, is_bs, tk_map, dp_map, app_map, neP_nn, neP_in, neP_ni, eqP_nn, eqP_in, eqP_ni, neP_bb, eqP_bb, ssm_fold, in_bl, ev_ixo, fIxa_ok, fIxb_bl, fIxc_s, ev_notT, fNotT_ok, fNotTd_s, W_par3, wP3a_ok, wP3b_ok, wP3c_ok, ev_rg1, fG1_ok, ev_rg2, fG2a_ok, fG2b_ok, ev_lstRg, ev_tupRg, ev_newRg, fLR_ok, fTR_ok, fNR_ok, ev_newOf, fNO_ok, fNOd_t, fNOd_l, setS_0, setS_S, W_sub, wS1_ok, wS2_ok, wS3_ok, wS4_s, TQ_nx, TQ_rt, TQ_ex, wTr_hit, wTr_miss, wTr_nil, rv_t, rv_l, rv_map, notIn_key, in_key, SQ_nx, SQ_rt, SQ_bk, SQ_ct, SQ_ex, addP_i, subP_i, negP_i, ltP_i, leP_i, gtP_i, geP_i, isP_n, isP_i, isP_b, isP_t, isP_l, isP_s, isNotP_n, isNotP_i, isNotP_b, isNotP_t, isNotP_l, isNotP_s, isP_bb, isNotP_bb, idxP_t, idxP_l, atI_0, atI_1, atI_2, sliceP_t, sliceP_l, lenP_t, lenP_l, lenP_f, tupleP_t, tupleP_l, listP_t, listP_l, minP_i, maxP_i, intP_i, intP_b, eqP_int, neP_int, List.set_cons_zero, List.set_cons_succ, List.length_cons, List.length_nil, List.map_cons, List.map_nil, List.length_map, List.cons_append, List.nil_append, List.append_nil, Option.map_some, Int.toNat_natCast, Int.reduceToNat, List.getElem?_map, List.getElem?_cons_zero, List.getElem?_cons_succ, List.replicate_zero, List.replicate_succ, Nat.sub_self, Nat.reduceSub, Nat.reduceAdd, Bool.not_true, Bool.not_false, List.take_zero, List.take_succ_cons, and_true, true_and, decide_true, decide_false, Int.cast_ofNat_Int, Int.reduceEq, Int.reduceNe, Int.reduceLT, Int.reduceLE, $[$ts:term],*])
/-! ### roads that meet again -/
def SQ (R : Env → List O → Prop) (Q : FQ) : FQ
  | .nx e, S => R e S
  | .rt v, S => Q (.rt v) S
  | .bk e, S => Q (.bk e) S
  | .ct e, S => Q (.ct e) S
  | .ex c e, S => Q (.ex c e) S
section
variable {env : Env} {S : List O} {v : Val} {c : Str} {ks : List SM} {Q : FQ} {R : Env → List O → Prop}
theorem SQ_nx {e : Env} : SQ R Q (.nx e) S = R e S := id rfl
theorem SQ_rt : SQ R Q (.rt v) S = Q (.rt v) S := id rfl
theorem SQ_bk {e : Env} : SQ R Q (.bk e) S = Q (.bk e) S := id rfl
theorem SQ_ct {e : Env} : SQ R Q (.ct e) S = Q (.ct e) S := id rfl
theorem SQ_ex {e : Env} : SQ R Q (.ex c e) S = Q (.ex c e) S := id rfl
theorem Wr_cut {o : Option (Fl × List O)} (h : Wr [] (SQ R Q) o) (h2 : ∀ e S', R e S' → Wn ks Q e S') : Wr ks Q o := by
  cases o with
  | none => exact h.elim
  | some r =>
    obtain ⟨f, S1⟩ := r
    cases f with
    | nx e => exact h2 e S1 h
    | rt v => exact Wr_rt.mpr h
    | bk e => exact Wr_bk.mpr h
    | ct e => exact Wr_ct.mpr h
    | ex c e => exact Wr_ex.mpr h
theorem W_cut {b : SM} (h : W b [] (SQ R Q) env S) (h2 : ∀ e S', R e S' → Wn ks Q e S') : W b ks Q env S := Wr_cut h h2
theorem wIf_cut {a b : SM} {o : Out Bool} (h : wIf a b [] (SQ R Q) env o) (h2 : ∀ e S', R e S' → Wn ks Q e S') : wIf a b ks Q env o := Wr_cut h h2
theorem wIf_cutS {a b A B : SM} {o : Out Bool} (h : wIf a b [A] (SQ R Q) env o) (h2 : ∀ e S', R e S' → W B ks Q e S') : wIf a b (sSeq A B :: ks) Q env o := by
  unfold wIf at h ⊢
  generalize stm env o _ = r at h
  cases r with
  | none => exact h.elim
  | some q =>
    obtain ⟨f, S1⟩ := q
    cases f with
    | nx e =>
      have h : Wr [] (SQ R Q) (A e S1) := h
      show W (sSeq A B) ks Q e S1
      rw [W_seq]
      exact Wr_cut h fun e' S' hr => h2 e' S' hr
    | rt v => exact Wr_rt.mpr h
    | bk e => exact Wr_bk.mpr h
    | ct e => exact Wr_ct.mpr h
    | ex c e => exact Wr_ex.mpr h
end
end Z

end
section
namespace Z
open PySem L2
/-! ### marks that are led to one another -/
theorem Conn.refl (fs : List F3) (a : Int) : Conn fs a a := ⟨[], rfl⟩
theorem Conn.trans {fs : List F3} {a b c : Int} (h1 : Conn fs a b) (h2 : Conn fs b c) : Conn fs a c := by
  obtain ⟨p, hp⟩ := h1
  obtain ⟨q, hq⟩ := h2
  exact ⟨p ++ q, by rw [walk_app, hp]; exact hq⟩
theorem stepTo_back {fs : List F3} {a b : Int} {s : St} (h : stepTo fs a s = some b) : stepTo fs b (s.1, !s.2) = some a := by
  unfold stepTo at h ⊢
  cases hf : fs[s.1]? with
  | none => rw [hf] at h; cases h
  | some f =>
    rw [hf] at h
    simp only at h ⊢
    cases hs : s.2 with
    | true =>
      rw [hs] at h
      simp only [if_true] at h
      split at h
      · rename_i e; cases h; simp [e]
      · cases h
    | false =>
      rw [hs] at h
      simp only [Bool.false_eq_true, if_false] at h
      split at h
      · rename_i e; cases h; simp [e]
      · cases h
/-- the steps back -/
def backS (p : List St) : List St := p.reverse.map fun s => (s.1, !s.2)
theorem walk_back {fs : List F3} : ∀ (p : List St) (a b : Int), walk fs a p = some b → walk fs b (backS p) = some a
  | [], a, b, h => by cases h; rfl
  | s :: p, a, b, h => by
    rw [walk_cons] at h
    obtain ⟨c, h1, h2⟩ := Option.bind_eq_some_iff.mp h
    have := walk_back p c b h2
    unfold backS at this ⊢
    rw [List.reverse_cons, List.map_append, walk_app, this]
    show walk fs c [(s.1, !s.2)] = some a
    rw [walk_cons, stepTo_back h1]; rfl
theorem Conn.symm {fs : List F3} {a b : Int} (h : Conn fs a b) : Conn fs b a := by
  obtain ⟨p, hp⟩ := h
  exact ⟨backS p, walk_back p a b hp⟩
theorem stepTo_fact {fs : List F3} {a b : Int} {s : St} (h : stepTo fs a s = some b) : ∃ f, fs[s.1]? = some f ∧ ((s.2 = true ∧ a = f.1 ∧ b = f.2.1) ∨ (s.2 = false ∧ a = f.2.1 ∧ b = f.1)) := by
  unfold stepTo at h
  cases hf : fs[s.1]? with
  | none => rw [hf] at h; cases h
  | some f =>
    rw [hf] at h
    simp only at h
    refine ⟨f, rfl, ?_⟩
    cases hs : s.2 with
    | true =>
      rw [hs] at h
      simp only [if_true] at h
      split at h
      · rename_i e; cases h; exact .inl ⟨rfl, e.symm, rfl⟩
      · cases h
    | false =>
      rw [hs] at h
      simp only [Bool.false_eq_true, if_false] at h
      split at h
      · rename_i e; cases h; exact .inr ⟨rfl, e.symm, rfl⟩
      · cases h
theorem stepTo_on {fs : List F3} {i : Nat} {f : F3} (h : fs[i]? = some f) : stepTo fs f.1 (i, true) = some f.2.1 := by
  simp [stepTo, h]
theorem stepTo_off {fs : List F3} {i : Nat} {f : F3} (h : fs[i]? = some f) : stepTo fs f.2.1 (i, false) = some f.1 := by
  simp [stepTo, h]
theorem Conn.fact {fs : List F3} {f : F3} (h : f ∈ fs) : Conn fs f.1 f.2.1 := by
  obtain ⟨i, hi, e⟩ := List.getElem_of_mem h
  exact ⟨[(i, true)], by rw [walk_cons, stepTo_on (by rw [List.getElem?_eq_getElem hi, e])]; rfl⟩
/-- what is led by steps, by a rule that facts keep -/
theorem Conn.ind {fs : List F3} {R : Int → Prop} (hR : ∀ f ∈ fs, R f.1 ↔ R f.2.1) {a b : Int} (h : Conn fs a b) (ha : R a) : R b := by
  obtain ⟨p, hp⟩ := h
  induction p generalizing a with
  | nil => cases hp; exact ha
  | cons s p ih =>
    rw [walk_cons] at hp
    obtain ⟨c, h1, h2⟩ := Option.bind_eq_some_iff.mp hp
    obtain ⟨f, hf, hc⟩ := stepTo_fact h1
    have hm := hR f (List.mem_of_getElem? hf)
    refine ih ?_ h2
    rcases hc with ⟨_, rfl, rfl⟩ | ⟨_, rfl, rfl⟩
    · exact hm.mp ha
    · exact hm.mpr ha
theorem Conn.sub {fs gs : List F3} (h : ∀ f ∈ fs, Conn gs f.1 f.2.1) {a b : Int} (hc : Conn fs a b) : Conn gs a b :=
  Conn.ind (R := fun x => Conn gs a x) (fun f hf => ⟨fun z => z.trans (h f hf), fun z => z.trans (h f hf).symm⟩) hc (Conn.refl gs a)
theorem Conn.mono {fs gs : List F3} (h : ∀ f ∈ fs, f ∈ gs) {a b : Int} (hc : Conn fs a b) : Conn gs a b := hc.sub fun f hf => Conn.fact (h f hf)
/-- only the marks matter -/
theorem Conn.rests {fs gs : List F3} (h : ∀ f ∈ fs, ∃ g ∈ gs, g.1 = f.1 ∧ g.2.1 = f.2.1) {a b : Int} (hc : Conn fs a b) : Conn gs a b := hc.sub fun f hf => by
  obtain ⟨g, hg, e1, e2⟩ := h f hf
  rw [← e1, ← e2]; exact Conn.fact hg
theorem conn_nil {a b : Int} (h : Conn [] a b) : a = b := by
  obtain ⟨p, hp⟩ := h
  cases p with
  | nil => cases hp; rfl
  | cons s p => rw [walk_cons] at hp; simp [stepTo] at hp
/-- one fact more -/
theorem conn_snoc {fs : List F3} {f : F3} {a b : Int} : Conn (fs ++ [f]) a b ↔ Conn fs a b ∨ (Conn fs a f.1 ∧ Conn fs f.2.1 b) ∨ (Conn fs a f.2.1 ∧ Conn fs f.1 b) := by
  constructor
  · intro h
    refine Conn.ind (fs := fs ++ [f]) (R := fun x => Conn fs a x ∨ (Conn fs a f.1 ∧ Conn fs f.2.1 x) ∨ (Conn fs a f.2.1 ∧ Conn fs f.1 x)) (fun g hg => ?_) h (.inl (Conn.refl fs a))
    rcases List.mem_append.mp hg with z | z
    · have hz := Conn.fact z
      constructor
      · rintro (q | ⟨q1, q2⟩ | ⟨q1, q2⟩)
        · exact .inl (q.trans hz)
        · exact .inr (.inl ⟨q1, q2.trans hz⟩)
        · exact .inr (.inr ⟨q1, q2.trans hz⟩)
      · rintro (q | ⟨q1, q2⟩ | ⟨q1, q2⟩)
        · exact .inl (q.trans hz.symm)
        · exact .inr (.inl ⟨q1, q2.trans hz.symm⟩)
        · exact .inr (.inr ⟨q1, q2.trans hz.symm⟩)
    · rw [List.mem_singleton.mp z]
      constructor
      · rintro (q | ⟨q1, q2⟩ | ⟨q1, q2⟩)
        · exact .inr (.inl ⟨q, Conn.refl fs _⟩)
        · exact .inr (.inl ⟨q1, Conn.refl fs _⟩)
        · exact .inl q1
      · rintro (q | ⟨q1, q2⟩ | ⟨q1, q2⟩)
        · exact .inr (.inr ⟨q, Conn.refl fs _⟩)
        · exact .inl q1
        · exact .inr (.inr ⟨q1, Conn.refl fs _⟩)
  · have hm : ∀ {x y : Int}, Conn fs x y → Conn (fs ++ [f]) x y := fun h => h.mono fun g hg => by simp [hg]
    have hf : Conn (fs ++ [f]) f.1 f.2.1 := Conn.fact (by simp)
    rintro (q | ⟨q1, q2⟩ | ⟨q1, q2⟩)
    · exact hm q
    · exact ((hm q1).trans hf).trans (hm q2)
    · exact ((hm q1).trans hf.symm).trans (hm q2)
/-! ### rests that go together: a worth for each mark -/
def Pot (m : Int) (fs : List F3) (φ : Int → Int) : Prop := ∀ f ∈ fs, (φ f.2.1 - φ f.1 - f.2.2) % m = 0
def Cons (m : Int) (fs : List F3) : Prop := ∃ φ, Pot m fs φ
theorem Pot.sub {m : Int} {fs gs : List F3} {φ : Int → Int} (h : Pot m gs φ) (hs : ∀ f ∈ fs, f ∈ gs) : Pot m fs φ := fun f hf => h f (hs f hf)
theorem Cons.sub {m : Int} {fs gs : List F3} (h : Cons m gs) (hs : ∀ f ∈ fs, f ∈ gs) : Cons m fs := by
  obtain ⟨φ, hp⟩ := h
  exact ⟨φ, hp.sub hs⟩
theorem Cons.nil {m : Int} : Cons m [] := ⟨fun _ => 0, fun f hf => by simp at hf⟩
theorem Pot.step {m : Int} {fs : List F3} {φ : Int → Int} (h : Pot m fs φ) {a b : Int} {s : St} (hs : stepTo fs a s = some b) : (φ b - φ a - stepR fs s) % m = 0 := by
  obtain ⟨f, hf, hc⟩ := stepTo_fact hs
  have hp := h f (List.mem_of_getElem? hf)
  unfold stepR
  rw [hf]
  rcases hc with ⟨h1, rfl, rfl⟩ | ⟨h1, rfl, rfl⟩
  · simp only [h1, if_true]; exact hp
  · simp only [h1, Bool.false_eq_true, if_false]
    have e : φ f.1 - φ f.2.1 - (0 - f.2.2) = -(φ f.2.1 - φ f.1 - f.2.2) := by omega
    rw [e]
    exact Int.emod_eq_zero_of_dvd (Int.dvd_neg.mpr (Int.dvd_of_emod_eq_zero hp))
theorem Pot.walk {m : Int} {fs : List F3} {φ : Int → Int} (h : Pot m fs φ) : ∀ (p : List St) (a b : Int), walk fs a p = some b → (φ b - φ a - walkR fs p) % m = 0
  | [], a, b, hw => by cases hw; simp [walkR]
  | s :: p, a, b, hw => by
    rw [walk_cons] at hw
    obtain ⟨c, h1, h2⟩ := Option.bind_eq_some_iff.mp hw
    have e1 := h.step h1
    have e2 := h.walk p c b h2
    unfold walkR at e2 ⊢
    rw [List.map_cons, List.sum_cons]
    have e : φ b - φ a - (stepR fs s + (p.map (stepR fs)).sum) = (φ b - φ c - (p.map (stepR fs)).sum) + (φ c - φ a - stepR fs s) := by omega
    rw [e]
    exact Int.emod_eq_zero_of_dvd (Int.dvd_add (Int.dvd_of_emod_eq_zero e2) (Int.dvd_of_emod_eq_zero e1))
theorem mod0_eq {m x y : Int} (h : (x - y) % m = 0) : x % m = y % m := Int.emod_eq_emod_iff_emod_sub_eq_zero.mpr h
theorem eq_mod0 {m x y : Int} (h : x % m = y % m) : (x - y) % m = 0 := Int.emod_eq_emod_iff_emod_sub_eq_zero.mp h
/-- a walk's rest, by the worths -/
theorem Pot.rest {m : Int} {fs : List F3} {φ : Int → Int} (h : Pot m fs φ) {p : List St} {a b : Int} (hw : Z.walk fs a p = some b) : walkR fs p % m = (φ b - φ a) % m := (mod0_eq (h.walk p a b hw)).symm
theorem walkR_take {fs : List F3} {n : Nat} {p : List St} {a b : Int} (h : walk (fs.take n) a p = some b) : walk fs a p = some b ∧ walkR (fs.take n) p = walkR fs p := by
  induction p generalizing a with
  | nil => cases h; exact ⟨rfl, rfl⟩
  | cons s p ih =>
    rw [walk_cons] at h
    obtain ⟨c, h1, h2⟩ := Option.bind_eq_some_iff.mp h
    obtain ⟨i1, i2⟩ := ih h2
    have hs : (fs.take n)[s.1]? = fs[s.1]? := by
      obtain ⟨f, hf, _⟩ := stepTo_fact h1
      rw [hf]
      have := (List.getElem?_eq_some_iff.mp hf)
      obtain ⟨l1, l2⟩ := this
      rw [List.getElem_take] at l2
      rw [List.length_take] at l1
      rw [List.getElem?_eq_getElem (by omega), l2]
    have e1 : stepTo fs a s = some c := by
      unfold stepTo at h1 ⊢
      rw [← hs]; exact h1
    refine ⟨by rw [walk_cons, e1]; exact i1, ?_⟩
    unfold walkR at i2 ⊢
    rw [List.map_cons, List.sum_cons, List.map_cons, List.sum_cons, i2]
    congr 1
    unfold stepR
    rw [hs]
/-- a fact whose marks are not led to one another may be told as one likes -/
theorem Pot.free {m : Int} {fs : List F3} {φ : Int → Int} (h : Pot m fs φ) {f : F3} (hn : ¬ Conn fs f.1 f.2.1) : Cons m (fs ++ [f]) := by
  classical
  refine ⟨fun x => if Conn fs f.2.1 x then φ x + (φ f.1 + f.2.2 - φ f.2.1) else φ x, fun g hg => ?_⟩
  show ((if Conn fs f.2.1 g.2.1 then φ g.2.1 + (φ f.1 + f.2.2 - φ f.2.1) else φ g.2.1) - (if Conn fs f.2.1 g.1 then φ g.1 + (φ f.1 + f.2.2 - φ f.2.1) else φ g.1) - g.2.2) % m = 0
  rcases List.mem_append.mp hg with z | z
  · have hc := Conn.fact z
    have hg := h g z
    by_cases hx : Conn fs f.2.1 g.1
    · rw [if_pos hx, if_pos (hx.trans hc)]
      rw [← hg]; congr 1; omega
    · rw [if_neg hx, if_neg fun q => hx (q.trans hc.symm)]
      exact hg
  · rw [List.mem_singleton.mp z, if_pos (Conn.refl fs _), if_neg fun q => hn q.symm]
    have : φ f.2.1 + (φ f.1 + f.2.2 - φ f.2.1) - φ f.1 - f.2.2 = 0 := by omega
    rw [this]; simp
theorem cons_snoc {m : Int} {fs : List F3} {φ : Int → Int} (h : Pot m fs φ) (f : F3) : Cons m (fs ++ [f]) ↔ (Conn fs f.1 f.2.1 → (φ f.2.1 - φ f.1 - f.2.2) % m = 0) := by
  classical
  constructor
  · rintro ⟨ψ, hp⟩ ⟨p, hw⟩
    have h1 := (hp.sub (fs := fs) fun g hg => by simp [hg]).walk p _ _ hw
    have h2 := h.walk p _ _ hw
    have h3 := hp f (by simp)
    have e : φ f.2.1 - φ f.1 - f.2.2 = (φ f.2.1 - φ f.1 - walkR fs p) - (ψ f.2.1 - ψ f.1 - walkR fs p) + (ψ f.2.1 - ψ f.1 - f.2.2) := by omega
    rw [e]
    exact Int.emod_eq_zero_of_dvd (Int.dvd_add (Int.dvd_sub (Int.dvd_of_emod_eq_zero h2) (Int.dvd_of_emod_eq_zero h1)) (Int.dvd_of_emod_eq_zero h3))
  · intro hc
    by_cases hx : Conn fs f.1 f.2.1
    · refine ⟨φ, fun g hg => ?_⟩
      rcases List.mem_append.mp hg with z | z
      · exact h g z
      · rw [List.mem_singleton.mp z]; exact hc hx
    · exact h.free hx
/-- what first_clash tells -/
def ClashRes (m : Int) (fs : List F3) : Option Nat → Prop
  | none => Cons m fs
  | some i => i < fs.length ∧ Cons m (fs.take i) ∧ ¬ Cons m (fs.take (i + 1))
theorem ClashRes.unique {m : Int} {fs : List F3} {x y : Option Nat} (h1 : ClashRes m fs x) (h2 : ClashRes m fs y) : x = y := by
  have tk : ∀ {n : Nat}, ∀ f ∈ fs.take n, f ∈ fs := fun f hf => List.mem_of_mem_take hf
  have tk2 : ∀ {i j : Nat}, i ≤ j → ∀ f ∈ fs.take i, f ∈ fs.take j := fun hij f hf => by
    rw [show fs.take _ = (fs.take _).take _ from (by rw [List.take_take, Nat.min_eq_left hij])] at hf
    exact List.mem_of_mem_take hf
  cases x with
  | none => cases y with
    | none => rfl
    | some j => exact (h2.2.2 (Cons.sub h1 tk)).elim
  | some i => cases y with
    | none => exact (h1.2.2 (Cons.sub h2 tk)).elim
    | some j =>
      obtain ⟨_, a2, a3⟩ := h1
      obtain ⟨_, b2, b3⟩ := h2
      rcases Nat.lt_trichotomy i j with z | z | z
      · exact (a3 (b2.sub (tk2 z))).elim
      · rw [z]
      · exact (b3 (a2.sub (tk2 z))).elim
theorem ClashRes.none_iff {m : Int} {fs : List F3} {x : Option Nat} (h : ClashRes m fs x) : x = none ↔ Cons m fs := by
  constructor
  · rintro rfl; exact h
  · intro hc
    exact h.unique (y := none) hc
/-! ### rows -/
/-- the sum ahead of a mark -/
def pre (r : List Int) (x : Int) : Int := (r.take x.toNat).sum
theorem pre_ssm (r : List Int) (a b : Int) (h0 : 0 ≤ a) (h1 : a ≤ b) : ssm r a b = pre r b - pre r a := by
  unfold pre ssm
  rw [cut_ij h0 (by omega)]
  have e : r.take b.toNat = r.take a.toNat ++ (r.drop a.toNat).take (b.toNat - a.toNat) := by
    conv => lhs; rw [show b.toNat = a.toNat + (b.toNat - a.toNat) by omega, List.take_add]
  rw [e, List.sum_append]
  omega
theorem fitB_pot {l m : Int} {fs : List F3} {r : List Int} (hm : 0 < m) (hg : Gd l m fs) : (∀ f ∈ fs, fitB m r f = true) ↔ Pot m fs (pre r) := by
  constructor
  · intro h f hf
    have := of_decide_eq_true (h f hf)
    have g := hg f hf
    rw [← pre_ssm r f.1 f.2.1 g.1 (by omega)]
    apply eq_mod0
    rw [this, Int.emod_eq_of_lt g.2.2.2.1 g.2.2.2.2]
  · intro h f hf
    have g := hg f hf
    have := mod0_eq (h f hf)
    rw [← pre_ssm r f.1 f.2.1 g.1 (by omega)] at this
    unfold fitB
    rw [this, Int.emod_eq_of_lt g.2.2.2.1 g.2.2.2.2]
    simp
/-- the row of worths -/
def rowOf (m : Int) (φ : Int → Int) (l : Nat) : List Int := (List.range l).map fun i : Nat => (φ ((i : Int) + 1) - φ i) % m
theorem rowOf_len (m : Int) (φ : Int → Int) (l : Nat) : (rowOf m φ l).length = l := by simp [rowOf]
theorem rowOf_rng {m : Int} (hm : 0 < m) (φ : Int → Int) (l : Nat) : ∀ x ∈ rowOf m φ l, 0 ≤ x ∧ x < m := by
  intro x hx
  obtain ⟨i, _, rfl⟩ := List.mem_map.mp hx
  exact ⟨Int.emod_nonneg _ (by omega), Int.emod_lt_of_pos _ hm⟩
theorem pre_rowOf {m : Int} (φ : Int → Int) (l : Nat) : ∀ k : Nat, k ≤ l → (pre (rowOf m φ l) k - (φ k - φ 0)) % m = 0
  | 0, _ => by simp [pre]
  | k + 1, hk => by
    have ih := pre_rowOf (m := m) φ l k (by omega)
    have e : pre (rowOf m φ l) ((k + 1 : Nat) : Int) = pre (rowOf m φ l) (k : Int) + (φ ((k : Int) + 1) - φ k) % m := by
      unfold pre
      rw [Int.toNat_natCast, Int.toNat_natCast, List.take_succ, List.sum_append]
      congr 1
      have : (rowOf m φ l)[k]? = some ((φ ((k : Int) + 1) - φ k) % m) := by
        unfold rowOf
        rw [List.getElem?_map, List.getElem?_range (by omega)]; rfl
      rw [this]; simp
    rw [e]
    have h2 : ((φ ((k : Int) + 1) - φ k) % m - (φ ((k : Int) + 1) - φ k)) % m = 0 := eq_mod0 (Int.emod_emod_of_dvd _ (Int.dvd_refl m))
    have e2 : pre (rowOf m φ l) (k : Int) + (φ ((k : Int) + 1) - φ k) % m - (φ ((k + 1 : Nat) : Int) - φ 0) = (pre (rowOf m φ l) k - (φ k - φ 0)) + ((φ ((k : Int) + 1) - φ k) % m - (φ ((k : Int) + 1) - φ k)) := by
      rw [show ((k + 1 : Nat) : Int) = (k : Int) + 1 by omega]; omega
    rw [e2]
    exact Int.emod_eq_zero_of_dvd (Int.dvd_add (Int.dvd_of_emod_eq_zero ih) (Int.dvd_of_emod_eq_zero h2))
theorem Pot.row {l m : Int} {fs : List F3} {φ : Int → Int} (hm : 0 < m) (hg : Gd l m fs) (h : Pot m fs φ) : ∀ f ∈ fs, fitB m (rowOf m φ l.toNat) f = true := by
  rw [fitB_pot hm hg]
  intro f hf
  have g := hg f hf
  have h1 := pre_rowOf (m := m) φ l.toNat f.1.toNat (by omega)
  have h2 := pre_rowOf (m := m) φ l.toNat f.2.1.toNat (by omega)
  rw [Int.toNat_of_nonneg g.1] at h1
  rw [Int.toNat_of_nonneg (show 0 ≤ f.2.1 by omega)] at h2
  have h3 := h f hf
  have e : pre (rowOf m φ l.toNat) f.2.1 - pre (rowOf m φ l.toNat) f.1 - f.2.2 = (pre (rowOf m φ l.toNat) f.2.1 - (φ f.2.1 - φ 0)) - (pre (rowOf m φ l.toNat) f.1 - (φ f.1 - φ 0)) + (φ f.2.1 - φ f.1 - f.2.2) := by omega
  rw [e]
  exact Int.emod_eq_zero_of_dvd (Int.dvd_add (Int.dvd_sub (Int.dvd_of_emod_eq_zero h2) (Int.dvd_of_emod_eq_zero h1)) (Int.dvd_of_emod_eq_zero h3))
/-- some row fits just if nothing clashes -/
theorem cons_row {l m : Int} {fs : List F3} (hm : 0 < m) (hl : 0 ≤ l) (hg : Gd l m fs) : Cons m fs ↔ ∃ r, GdR l m r ∧ ∀ f ∈ fs, fitB m r f = true := by
  constructor
  · rintro ⟨φ, hp⟩
    exact ⟨rowOf m φ l.toNat, ⟨by rw [rowOf_len]; omega, rowOf_rng hm φ _⟩, hp.row hm hg⟩
  · rintro ⟨r, _, h⟩
    exact ⟨pre r, (fitB_pot hm hg).mp h⟩
end Z

end
section
namespace Z
open PySem L2
def b_led : SM :=
    sSeq (sSet 3 (mC (.int 0)))
    (sSeq (sFor (.tp [.nm 4, .nm 5]) (iSeq (mVar 2)) (sSeq (sAsg (.tp [.nm 6, .nm 7, .nm 8]) (mP2 idxP (mP2 idxP (mVar 0) (mC (.int 2))) (mVar 4)))
      (sSeq (sIf (tTr (mVar 5)) (sPar3 9 10 11 (mVar 6) (mVar 7) (mVar 8)) (sPar3 9 10 11 (mVar 7) (mVar 6) (mP2 subP (mC (.int 0)) (mVar 8))))
      (sSeq (sIf (tB (mP2 neP (mVar 9) (mVar 1))) (sRet (mC .non)) (sPass))
      (sSeq (sSet 1 (mVar 10))
      (sSet 3 (mP2 addP (mVar 3) (mVar 11))))))) [4, 5, 6, 7, 8, 9, 10, 11])
    (sRet (mTup [mVar 1, mP2 modP (mVar 3) (mP2 idxP (mVar 0) (mC (.int 1)))])))
def f_led : Fn := runF 12 (b_led)
def b_are_steps : SM :=
    sSeq (sIf (tNotM (tTr (mP1 (isiQ "tuple") (mVar 1)))) (sRet (mC (.bl false))) (sPass))
    (sSeq (sFor (.nm 2) (iSeq (mVar 1)) (sSeq (sIf (tOrM (tNotM (tTr (mP1 (isiQ "tuple") (mVar 2)))) (tOrM (tB (mP2 neP (mPn lenP [mVar 2]) (mC (.int 2)))) (tNotM (tTr (mP1 (isiQ "bool") (mP2 idxP (mVar 2) (mC (.int 1)))))))) (sRet (mC (.bl false))) (sPass))
      (sIf (tNotM (tTr (mCall f_is_whole [mP2 idxP (mVar 2) (mC (.int 0)), mC (.int 0), mP2 subP (mPn lenP [mP2 idxP (mVar 0) (mC (.int 2))]) (mC (.int 1))]))) (sRet (mC (.bl false))) (sPass))) [2])
    (sRet (mC (.bl true))))
def f_are_steps : Fn := runF 3 (b_are_steps)
def b_is_ring : SM :=
    sSeq (sIf (tNotM (tTr (mCall f_are_steps [mVar 0, mVar 2]))) (sRet (mC (.bl false))) (sPass))
    (sSeq (sSet 3 (mCall f_led [mVar 0, mVar 1, mVar 2]))
    (sRet (mAnd (mP2 isNotP (mVar 3) (mC .non)) (mAnd (mP2 eqP (mP2 idxP (mVar 3) (mC (.int 0))) (mVar 1)) (mP2 neP (mP2 idxP (mVar 3) (mC (.int 1))) (mC (.int 0)))))))
def f_is_ring : Fn := runF 4 (b_is_ring)
def b_first_clash : SM :=
    sSeq (sAsg (.tp [.nm 1, .nm 2, .nm 3]) (mVar 0))
    (sSeq (sFor (.tp [.nm 4, .tp [.nm 5, .nm 6, .nm 7]]) (iEnumM (mVar 3)) (sSeq (sSet 8 (mTup [mVar 1, mVar 2, mSl (mVar 3) none (some (mVar 4))]))
      (sSeq (sSet 9 (mCall f_way [mVar 8, mVar 5, mVar 6]))
      (sIf (tAndM (tB (mP2 isNotP (mVar 9) (mC .non))) (tB (mP2 neP (mP2 idxP (mCall f_led [mVar 8, mVar 5, mVar 9]) (mC (.int 1))) (mVar 7)))) (sRet (mVar 4)) (sPass)))) [4, 5, 6, 7, 8, 9])
    (sRet (mC .non)))
def f_first_clash : Fn := runF 10 (b_first_clash)
def b_why_clash : SM :=
    sSeq (sSet 1 (mCall f_first_clash [mVar 0]))
    (sSeq (sIf (tB (mP2 isP (mVar 1) (mC .non))) (sRet (mC .non)) (sPass))
    (sSeq (sAsg (.tp [.nm 2, .nm 3, .nm 4]) (mP2 idxP (mP2 idxP (mVar 0) (mC (.int 2))) (mVar 1)))
    (sSeq (sSet 5 (mTup [mP2 idxP (mVar 0) (mC (.int 0)), mP2 idxP (mVar 0) (mC (.int 1)), mSl (mP2 idxP (mVar 0) (mC (.int 2))) none (some (mVar 1))]))
    (sRet (mTup [mVar 2, mP2 addP (mTup [mTup [mVar 1, mC (.bl true)]]) (mCall f_way [mVar 5, mVar 3, mVar 2])])))))
def f_why_clash : Fn := runF 6 (b_why_clash)
def b_is_way : SM :=
    sRet (mAnd (mCall f_are_steps [mVar 0, mVar 4]) (mP2 eqP (mCall f_led [mVar 0, mVar 1, mVar 4]) (mTup [mVar 2, mVar 3])))
def f_is_way : Fn := runF 5 (b_is_way)
def b_need_none : SM :=
    sIf (tB (mP2 isNotP (mCall f_first_clash [mVar 0]) (mC .non))) (sRaise "Clash") (sPass)
def f_need_none : Fn := runF 1 (b_need_none)
def b_told : SM :=
    sSeq (sExpr (mCall f_need_none [mVar 0]))
    (sSeq (sSet 3 (mCall f_way [mVar 0, mVar 1, mVar 2]))
    (sSeq (sIf (tB (mP2 isP (mVar 3) (mC .non))) (sRet (mC .non)) (sPass))
    (sRet (mP2 idxP (mCall f_led [mVar 0, mVar 1, mVar 3]) (mC (.int 1))))))
def f_told : Fn := runF 4 (b_told)
end Z

end
section
namespace Z
open PySem L2
local macro_rules | `(tactic| tbr_iter [$ts,*]) => `(tactic| simp (disch := first | assumption | omega | decide | (simp only [List.length_map, List.length_cons, List.length_nil, List.length_append, List.length_range, List.length_take, List.length_drop]; omega)) only [ev_var0s, ev_varS, ev_c, dr_p, dr_0, dr_S, pu_pl, pu_pd, pu_pdT, retO_s, ev_mv, fMv_ref, fMvx_s, ev_p1, fP1_ok, fP1d_s, ev_p2, fP2a_ok, fP2a_exc, fP2b_ok, fP2b_exc, fP2c_s, evs_nil, evs_cons, fEa_ok, fEa_exc, fEb_ok, fEb_exc, drs_nil, drs_cons, fDc_s, ev_pn, fPn_ok, fPn_exc, fPd_s, purs_nil, purs_cons, ev_tup, fTup_ok, fTup_exc, fTd_s, ev_lst, fLst_ok, fLst_exc, fLd_s, ev_newL, fNewL_ok, fNewL_exc, fNd_s, ev_newD, ev_and, fAnd_t, fAnd_f, fAnd_exc, ev_or, fOr_t, fOr_f, fOr_exc, ev_not, fNot_b, fNot_exc, ev_if, fIf_t, fIf_f, fIf_exc, ev_tB, ftB_b, ftB_exc, ev_tTr, ftT_ok, ftT_exc, ftTd_s, tr_non, tr_bl, tr_int, tr_tup, tr_lst, tr_0, tr_S, otr_pl, ev_tand, ftAnd_t, ftAnd_f, ftAnd_exc, ev_tor, ftOr_t, ftOr_f, ftOr_exc, ev_tnot, ftNot_b, ftNot_exc, ev_tyes, ev_sl, fSa_ok, fSa_exc, fSb_ok, fSc_ok, fSd_s, evO_n, evO_s, fO_i, ev_ch, fCa_ok, fCb_ok, fCc_t, fCc_f, ev_call, fCall_ok, fCall_exc, fRp_ok, fRp_exc, cv_1, cv_2, cv_3, cv_4, cv_5, fRt_ok, ev_lc, it_seq, fSeq_t, fSeq_l, it_en, fEn_t, fEn_l, it_r1, fR1_ok, it_r2, fR2a_ok, fR2b_ok, it_z, fZa_ok, fZb_t, fZb_l, ev_me, fMa_ok, fMb_t, fMc_ok, fMc_exc, la_0, la_r0, la_S, fPush_s, app_S, ext_S, W_seq, W_pass, Wn_cons, Wn_nil, W_set, wSet_ok, wSet_exc, W_expr, wEx_ok, wEx_exc, W_ret, wRet_ok, wRet_exc, W_if, wIf_t, wIf_f, wIf_exc, W_brk, W_cont, W_raise, W_asg, wAsg_ok, wAsg_exc, wA_s, asg_nm, asg_tp, asg_tpl, asgs_nil, asgs_cons, fAs_s, W_par2, wPa_ok, wPa_exc, wPb_ok, wPb_exc, clr_nil, clr_cons, W_for, wFor_ok, wFor_exc, IQ_nx, IQ_ct, IQ_bk, IQ_rt, IQ_ex, wB_s, lcE1_s, lcE2_t, lcE2_f, lcE3_s, fLm_s, fLt_s, fLc_ok, o_mod, o_fdiv, o_mulR, o_mulL, o_addT, o_addL, o_sumT, o_sumL, o_app, o_ext, cut_map, cut_0j, cut_i, atI_map, atI_i, all_b, any_b, is_t, is_tl, is_ti, is_tb, is_tn, is_ts, is_i, is_ib, is_it, is_il, is_in, is_is, is_b, is_bi, is_bt, is_bl, is_bn, is_bs, tk_map, dp_map, app_map, neP_nn, neP_in, neP_ni, eqP_nn, eqP_in, eqP_ni, neP_bb, eqP_bb, ssm_fold, in_bl, ev_ixo, fIxa_ok, fIxb_bl, fIxc_s, ev_notT, fNotT_ok, fNotTd_s, W_par3, wP3a_ok, wP3b_ok, wP3c_ok, ev_rg1, fG1_ok, ev_rg2, fG2a_ok, fG2b_ok, ev_lstRg, ev_tupRg, ev_newRg, fLR_ok, fTR_ok, fNR_ok, ev_newOf, fNO_ok, fNOd_t, fNOd_l, setS_0, setS_S, W_sub, wS1_ok, wS2_ok, wS3_ok, wS4_s, TQ_nx, TQ_rt, TQ_ex, wTr_hit, wTr_miss, wTr_nil, rv_t, rv_l, rv_map, notIn_key, in_key, SQ_nx, SQ_rt, SQ_bk, SQ_ct, SQ_ex, addP_i, subP_i, negP_i, ltP_i, leP_i, gtP_i, geP_i, isP_n, isP_i, isP_b, isP_t, isP_l, isP_s, isNotP_n, isNotP_i, isNotP_b, isNotP_t, isNotP_l, isNotP_s, isP_bb, isNotP_bb, idxP_t, idxP_l, atI_0, atI_1, atI_2, sliceP_t, sliceP_l, lenP_t, lenP_l, lenP_f, tupleP_t, tupleP_l, listP_t, listP_l, minP_i, maxP_i, intP_i, intP_b, eqP_int, neP_int, List.set_cons_zero, List.set_cons_succ, List.length_cons, List.length_nil, List.map_cons, List.map_nil, List.length_map, List.cons_append, List.nil_append, List.append_nil, Option.map_some, Int.toNat_natCast, Int.reduceToNat, List.getElem?_map, List.getElem?_cons_zero, List.getElem?_cons_succ, List.replicate_zero, List.replicate_succ, Nat.sub_self, Nat.reduceSub, Nat.reduceAdd, Bool.not_true, Bool.not_false, List.take_zero, List.take_succ_cons, and_true, true_and, decide_true, decide_false, Int.cast_ofNat_Int, Int.reduceEq, Int.reduceNe, Int.reduceLT, Int.reduceLE, $[$ts:term],*])
theorem fn_Wn {k : Nat} {b : SM} {vs : List Val} {S S1 : List O} (h : W b [] (fun r S' => (∃ e, r = .nx e) ∧ S'.take S.length = S1) (vs.map some ++ List.replicate (k - vs.length) none) S) (hc : closeO S1 = true) : runF k b vs S = some (.ok (.p .non), S1) := by
  unfold W at h
  unfold runF
  cases hb : b (vs.map some ++ List.replicate (k - vs.length) none) S with
  | none => rw [hb] at h; exact h.elim
  | some r =>
    obtain ⟨f, S'⟩ := r
    rw [hb] at h
    obtain ⟨⟨e, rfl⟩, h2⟩ := h
    simp only [finish, h2, hc, if_true]
abbrev optL (m : Int) (fs : List F3) (p : List St) : Option Int → P
  | none => .non
  | some b => .tup [.int b, .int (walkR fs p % m)]
/-- steps by facts that are there -/
def Vs (fs : List F3) (p : List St) : Prop := ∀ s ∈ p, s.1 < fs.length
theorem walk_vs {fs : List F3} : ∀ {p : List St} {a b : Int}, walk fs a p = some b → Vs fs p
  | [], _, _, _ => fun s hs => by simp at hs
  | s :: p, a, b, h => by
    rw [walk_cons] at h
    obtain ⟨c, h1, h2⟩ := Option.bind_eq_some_iff.mp h
    obtain ⟨f, hf, _⟩ := stepTo_fact h1
    intro t ht
    rcases List.mem_cons.mp ht with rfl | z
    · exact (List.getElem?_eq_some_iff.mp hf).1
    · exact walk_vs h2 t z
theorem led_eq (l m : Int) (fs : List F3) (a : Int) (p : List St) (hm : 0 < m) (hv : Vs fs p) : f_led [.p (sP l m fs), .p (.int a), .p (stsP p)] [] = some (.ok (.p (optL m fs p (walk fs a p))), []) := by
  refine fn_W (k := 12) ?_ rfl
  unfold b_led
  tbr_iter []
  refine W_pre (σ := Int × Int) p stP (fun s => [some (.p (sP l m fs)), some (.p (.int s.1)), some (.p (stsP p)), some (.p (.int s.2)), none, none, none, none, none, none, none, none]) (fun _ => []) (fun d s => walk fs a d = some s.1 ∧ s.2 = walkR fs d) (a, 0) rfl rfl ⟨rfl, rfl⟩ ?_ ?_
  · rintro d ⟨n, b⟩ w ⟨x, t⟩ hd ⟨h1, h2⟩
    simp only at h1 h2
    have hn : n < fs.length := hv (n, b) (by rw [hd]; simp)
    obtain ⟨f, hf⟩ : ∃ f, fs[n]? = some f := ⟨_, List.getElem?_eq_getElem hn⟩
    have hsn : walk fs a (d ++ [(n, b)]) = stepTo fs x (n, b) := by rw [walk_snoc, h1]; rfl
    have hR : walkR fs (d ++ [(n, b)]) = t + stepR fs (n, b) := by
      unfold walkR at h2 ⊢
      rw [List.map_append, List.sum_append, ← h2]; simp
    have hdead : stepTo fs x (n, b) = none → walk fs a p = none := by
      intro h
      rw [hd, show d ++ (n, b) :: w = (d ++ [(n, b)]) ++ w by simp, walk_app, hsn, h]; rfl
    cases b with
    | true =>
      tbr_iter [hf]
      rw [wIf_c]
      refine ⟨fun h => ?_, fun h => ?_⟩
      · have h : ¬ f.1 = x := by simpa using h
        have := hdead (by simp [stepTo, hf, h])
        tbr_iter [this]
      · have h : f.1 = x := by simpa using h
        tbr_iter []
        refine ⟨(f.2.1, t + f.2.2), rfl, ?_, ?_⟩
        · rw [hsn]; simp [stepTo, hf, h]
        · rw [hR]; simp [stepR, hf]
    | false =>
      tbr_iter [hf]
      rw [wIf_c]
      refine ⟨fun h => ?_, fun h => ?_⟩
      · have h : ¬ f.2.1 = x := by simpa using h
        have := hdead (by simp [stepTo, hf, h])
        tbr_iter [this]
      · have h : f.2.1 = x := by simpa using h
        tbr_iter []
        refine ⟨(f.1, t + (0 - f.2.2)), rfl, ?_, ?_⟩
        · rw [hsn]; simp [stepTo, hf, h]
        · rw [hR]; simp [stepR, hf]
  · rintro ⟨x, t⟩ ⟨h1, h2⟩
    simp only at h1 h2
    tbr_iter [h1]
    rw [h2]
theorem first_clash_eq (l m : Int) (fs : List F3) (hm : 0 < m) (hl : 0 ≤ l) (hl2 : l ≤ 1000) (hg : Gd l m fs) (hf : fs.length ≤ 1000) : ∃ r, ClashRes m fs r ∧ f_first_clash [.p (sP l m fs)] [] = some (.ok (.p (optN r)), []) := by
  have key : ∃ x S1, f_first_clash [.p (sP l m fs)] [] = some (.ok (.p x), S1) ∧ ∃ r, x = optN r ∧ S1 = [] ∧ ClashRes m fs r := by
    refine fn_Wx (k := 10) ?_ (by rintro x S1 ⟨r, rfl, rfl, _⟩; rfl)
    unfold b_first_clash
    tbr_iter []
    refine W_enum (σ := Unit) fs fP (fun _ => [some (.p (sP l m fs)), some (.p (.int l)), some (.p (.int m)), some (.p (fsP fs)), none, none, none, none, none, none]) (fun _ => []) (fun i _ => Cons m (fs.take i)) () rfl rfl (by rw [List.take_zero]; exact Cons.nil) ?_ ?_
    · rintro i f s hfi ⟨φ, hp⟩
      have hi := (List.getElem?_eq_some_iff.mp hfi).1
      have g := hg f (List.mem_of_getElem? hfi)
      have hts := take_snoc hfi
      have hcs := cons_snoc hp f
      rw [← hts] at hcs
      obtain ⟨r, hr, e⟩ := way_eq l m (fs.take i) f.1 f.2.1 (hg.take i) (by simp; omega) hl2 g.1 (by omega)
      tbr_iter [e]
      cases r with
      | none =>
        tbr_iter []
        exact ⟨(), hcs.mpr fun hc => absurd hc hr⟩
      | some p =>
        have hw : walk (fs.take i) f.1 p = some f.2.1 := hr.1
        have le := led_eq l m (fs.take i) f.1 p hm (walk_vs hw)
        rw [hw] at le
        have hrest := hp.rest hw
        tbr_iter [le]
        rw [wIf_c]
        refine ⟨fun h => ?_, fun h => ?_⟩
        · have h : ¬ walkR (fs.take i) p % m = f.2.2 := by simpa using h
          tbr_iter []
          refine ⟨_, rfl, some i, rfl, hi, ⟨φ, hp⟩, fun hc => h ?_⟩
          have := hcs.mp hc ⟨p, hw⟩
          rw [hrest, mod0_eq this, Int.emod_eq_of_lt g.2.2.2.1 g.2.2.2.2]
        · have h : walkR (fs.take i) p % m = f.2.2 := by simpa using h
          tbr_iter []
          refine ⟨(), hcs.mpr fun _ => ?_⟩
          apply eq_mod0
          rw [← hrest, h, Int.emod_eq_of_lt g.2.2.2.1 g.2.2.2.2]
    · rintro s hc
      rw [List.take_length] at hc
      tbr_iter []
      exact ⟨_, rfl, none, rfl, hc⟩
  obtain ⟨x, S1, h, r, rfl, rfl, h2⟩ := key
  exact ⟨r, h2, h⟩
theorem need_ok (l m : Int) (fs : List F3) (hm : 0 < m) (hl : 0 ≤ l) (hl2 : l ≤ 1000) (hg : Gd l m fs) (hf : fs.length ≤ 1000) (hc : Cons m fs) : f_need_none [.p (sP l m fs)] [] = some (.ok (.p .non), []) := by
  obtain ⟨r, hr, e⟩ := first_clash_eq l m fs hm hl hl2 hg hf
  obtain rfl := hr.none_iff.mpr hc
  refine fn_Wn (k := 1) ?_ rfl
  unfold b_need_none
  tbr_iter [e]
  exact ⟨_, rfl⟩
theorem need_no (l m : Int) (fs : List F3) (hm : 0 < m) (hl : 0 ≤ l) (hl2 : l ≤ 1000) (hg : Gd l m fs) (hf : fs.length ≤ 1000) (hc : ¬ Cons m fs) : f_need_none [.p (sP l m fs)] [] = some (.exc "Clash", []) := by
  obtain ⟨r, hr, e⟩ := first_clash_eq l m fs hm hl hl2 hg hf
  cases r with
  | none => exact (hc hr).elim
  | some i =>
    refine fn_Wex (k := 1) ?_ rfl
    unfold b_need_none
    tbr_iter [e]
    exact ⟨_, rfl⟩
theorem told_no (l m : Int) (fs : List F3) (a b : Int) (hm : 0 < m) (hl : 0 ≤ l) (hl2 : l ≤ 1000) (hg : Gd l m fs) (hf : fs.length ≤ 1000) (hc : ¬ Cons m fs) : f_told [.p (sP l m fs), .p (.int a), .p (.int b)] [] = some (.exc "Clash", []) := by
  refine fn_Wex (k := 4) ?_ rfl
  unfold b_told
  tbr_iter [need_no l m fs hm hl hl2 hg hf hc]
  exact ⟨_, rfl⟩
abbrev optI : Option Int → P
  | none => .non
  | some i => .int i
/-- what told tells -/
theorem told_eq (l m : Int) (fs : List F3) (a b : Int) (φ : Int → Int) (hm : 0 < m) (hl : 0 ≤ l) (hl2 : l ≤ 1000) (hg : Gd l m fs) (hf : fs.length ≤ 1000) (h0 : 0 ≤ a) (h1 : a ≤ l) (hp : Pot m fs φ) :
    (Conn fs a b ∧ f_told [.p (sP l m fs), .p (.int a), .p (.int b)] [] = some (.ok (.p (.int ((φ b - φ a) % m))), [])) ∨ (¬ Conn fs a b ∧ f_told [.p (sP l m fs), .p (.int a), .p (.int b)] [] = some (.ok (.p .non), [])) := by
  have nn := need_ok l m fs hm hl hl2 hg hf ⟨φ, hp⟩
  obtain ⟨r, hr, e⟩ := way_eq l m fs a b hg hf hl2 h0 h1
  cases r with
  | none =>
    refine .inr ⟨hr, fn_W (k := 4) ?_ rfl⟩
    unfold b_told
    tbr_iter [nn, e]
  | some p =>
    have hw : walk fs a p = some b := hr.1
    have le := led_eq l m fs a p hm (walk_vs hw)
    rw [hw] at le
    refine .inl ⟨⟨p, hw⟩, fn_W (k := 4) ?_ rfl⟩
    unfold b_told
    tbr_iter [nn, e, le]
    rw [hp.rest hw]
/-- why_clash: a ring, just if there is a clash -/
theorem why_eq (l m : Int) (fs : List F3) (hm : 0 < m) (hl : 0 ≤ l) (hl2 : l ≤ 1000) (hg : Gd l m fs) (hf : fs.length ≤ 1000) :
    (Cons m fs ∧ f_why_clash [.p (sP l m fs)] [] = some (.ok (.p .non), [])) ∨ ∃ (i : Nat) (f : F3) (p : List St), ClashRes m fs (some i) ∧ fs[i]? = some f ∧ walk (fs.take i) f.2.1 p = some f.1 ∧ IsWay (fs.take i) f.2.1 f.1 p ∧ f_why_clash [.p (sP l m fs)] [] = some (.ok (.p (.tup [.int f.1, stsP ((i, true) :: p)])), []) := by
  obtain ⟨r, hr, e⟩ := first_clash_eq l m fs hm hl hl2 hg hf
  cases r with
  | none =>
    refine .inl ⟨hr, fn_W (k := 6) ?_ rfl⟩
    unfold b_why_clash
    tbr_iter [e]
  | some i =>
    obtain ⟨hi, ⟨φ, hp⟩, hnc⟩ := id hr
    obtain ⟨f, hfi⟩ : ∃ f, fs[i]? = some f := ⟨_, List.getElem?_eq_getElem hi⟩
    have g := hg f (List.mem_of_getElem? hfi)
    obtain ⟨r, hr2, hlen, e2⟩ := way_eqL l m (fs.take i) f.2.1 f.1 (hg.take i) (by simp; omega) hl2 (by omega) (by omega)
    cases r with
    | none =>
      exfalso
      rw [take_snoc hfi] at hnc
      exact hnc ((cons_snoc hp f).mpr fun hc => absurd hc.symm hr2)
    | some p =>
      refine .inr ⟨i, f, p, hr, hfi, hr2.1, hr2, fn_W (k := 6) ?_ rfl⟩
      have hpl := hlen p rfl
      unfold b_why_clash
      tbr_iter [e, hfi, e2]
      rfl
end Z

end
section
namespace Z
open PySem PySem.Spec PyProof.Rows L2
section
variable {X : Cx} {W : WX}
/-! ### [..] * n that will be changed -/
def repL : P → P → Option (List P)
  | .lst xs, .int k => if 0 ≤ k ∧ k ≤ 1000 ∧ xs.length ≤ 1000 then some (List.replicate k.toNat xs).flatten else none
  | _, _ => none
def mNewMul (a b : EM) : EM := fun env S => bnd (a env S) fun v S1 => bnd (b env S1) fun u S2 => (deref S2 v).bind fun p => (deref S2 u).bind fun q => (repL p q).bind fun xs => some (.ok (.ref S2.length), S2 ++ [.pl xs])
theorem repL_some {p q : P} {zs : List P} (e : repL p q = some zs) : ∃ xs n, p = .lst xs ∧ q = .int n ∧ (0 ≤ n ∧ n ≤ 1000 ∧ xs.length ≤ 1000) ∧ zs = (List.replicate n.toNat xs).flatten := by
  unfold repL at e
  split at e
  · rename_i xs n
    split at e
    · rename_i hl
      cases e
      exact ⟨xs, n, rfl, rfl, hl, rfl⟩
    · cases e
  · cases e
theorem de_newMul {a b : Expr} {ma mb : EM} {pos : Pos} (ha : DE X W a ma) (hb : DE X W b mb) : DE X W (.BinOp a .Mult b pos) (mNewMul ma mb) := by
  refine PE.imp (pe_op op_rep ha hb) fun σ H Q ⟨F, ρ, env, S, r, e, h⟩ => ?_
  unfold mNewMul at h
  refine ⟨F, ρ, env, S, r, e, h.bnd.imp (fun d S1 h1 v H1 ρ1 x1 r1 v1 => ?_) fun _ _ q => q⟩
  refine ⟨F, ρ1, env, S1, r1, e.xt x1, h1.bnd.imp (fun d2 S2 h2 v2 H2 ρ2 x2 r2 w2 => ?_) fun _ _ q => q.xt x1⟩
  obtain ⟨p, e1, h2⟩ := h2.opt
  obtain ⟨q, e2, h2⟩ := h2.opt
  obtain ⟨zs, e3, h2⟩ := h2.opt
  obtain ⟨xs, n, rfl, rfl, hl, rfl⟩ := repL_some e3
  obtain ⟨a, vs, rfl, g1, rr⟩ := (deref_rep r2 (v1.xt x2) e1).lstI
  obtain rfl := (deref_rep r2 w2 e2).int
  have hlen : vs.length * n.toNat ≤ sizeLine := by
    have h1 : vs.length ≤ 1000 := by rw [← rr.length]; exact hl.2.2
    have h2 : n.toNat ≤ 1000 := by omega
    have h3 : vs.length * n.toNat ≤ 1000 * 1000 := Nat.mul_le_mul h1 h2
    exact Nat.le_trans h3 (by rw [sizeLine_eq]; decide)
  have rep : ∀ m : Nat, RepL X.K H2 (Bd F ρ2) (List.replicate m xs).flatten (List.replicate m vs).flatten := fun m => by
    induction m with
    | zero => exact .nil
    | succ m ih => rw [List.replicate_succ, List.replicate_succ, List.flatten_cons, List.flatten_cons]; exact rr.append ih
  refine ⟨a, n, vs, rfl, rfl, g1, by omega, by omega, hlen, fun p np => ?_⟩
  have px : Xt H2 ρ2 (upd H2 p (.lst (List.replicate n.toNat vs).flatten)) (ρ2 ++ [some p]) := push_xt np
  refine KV1.xt (x1.trans x2) (show KV1 X.K H F ρ Q (.ref S2.length) (S2 ++ [.pl (List.replicate n.toNat xs).flatten]) from h2) _ _ (ρ2 ++ [some p]) px (push_rl r2 np ⟨_, upd_same, (rep _).xt px⟩) ⟨?_, fun a ha => ?_⟩
  · rw [← r2.len]; simp
  · rw [← r2.len, List.getElem?_append_right (Nat.le_refl _), Nat.sub_self] at ha
    cases ha; rfl
end
end Z

end
section
namespace Z
open PySem L2
def b_l_marks : SM :=
    sSeq (sSet 2 (mNewRg (rg1 (mP2 addP (mP2 idxP (mVar 0) (mC (.int 0))) (mC (.int 1))))))
    (sSeq (sSet 3 (mNewMul (mLst [mC (.int 0)]) (mP2 addP (mP2 idxP (mVar 0) (mC (.int 0))) (mC (.int 1)))))
    (sSeq (sFor (.tp [.nm 4, .nm 5, .nm 6]) (iSeq (mSl (mP2 idxP (mVar 0) (mC (.int 2))) none (some (mVar 1)))) (sIf (tB (mP2 neP (mP2 idxP (mVar 2) (mVar 4)) (mP2 idxP (mVar 2) (mVar 5)))) (sSeq (sPar2 7 8 (mP2 idxP (mVar 2) (mVar 5)) (mP2 subP (mP2 addP (mP2 idxP (mVar 3) (mVar 4)) (mVar 6)) (mP2 idxP (mVar 3) (mVar 5))))
        (sFor (.nm 9) (iRange1 (mP2 addP (mP2 idxP (mVar 0) (mC (.int 0))) (mC (.int 1)))) (sIf (tB (mP2 eqP (mP2 idxP (mVar 2) (mVar 9)) (mVar 7))) (sSeq (mSub (mVar 2) (mVar 9) (mP2 idxP (mVar 2) (mVar 4)))
            (mSub (mVar 3) (mVar 9) (mP2 modP (mP2 addP (mP2 idxP (mVar 3) (mVar 9)) (mVar 8)) (mP2 idxP (mVar 0) (mC (.int 1)))))) (sPass)) [9])) (sIf (tB (mP2 neP (mP2 modP (mP2 subP (mP2 subP (mP2 idxP (mVar 3) (mVar 5)) (mP2 idxP (mVar 3) (mVar 4))) (mVar 6)) (mP2 idxP (mVar 0) (mC (.int 1)))) (mC (.int 0)))) (sRet (mC .non)) (sPass))) [4, 5, 6, 7, 8, 9])
    (sRet (mTup [mMv 2, mMv 3]))))
def f_l_marks : Fn := runF 10 (b_l_marks)
def b_l_clash : SM :=
    sSeq (sFor (.nm 1) (iRange2 (mC (.int 1)) (mP2 addP (mPn lenP [mP2 idxP (mVar 0) (mC (.int 2))]) (mC (.int 1)))) (sIf (tB (mP2 isP (mCall f_l_marks [mVar 0, mVar 1]) (mC .non))) (sRet (mP2 subP (mVar 1) (mC (.int 1)))) (sPass)) [1])
    (sRet (mC .non))
def f_l_clash : Fn := runF 2 (b_l_clash)
def b_l_led : SM :=
    sSeq (sIf (tNotM (tTr (mP1 (isiQ "tuple") (mVar 2)))) (sRet (mC .non)) (sPass))
    (sSeq (sSet 3 (mC (.int 0)))
    (sSeq (sFor (.nm 4) (iSeq (mVar 2)) (sSeq (sIf (tOrM (tNotM (tTr (mP1 (isiQ "tuple") (mVar 4)))) (tOrM (tB (mP2 neP (mPn lenP [mVar 4]) (mC (.int 2)))) (tNotM (tTr (mP1 (isiQ "bool") (mP2 idxP (mVar 4) (mC (.int 1)))))))) (sRet (mC .non)) (sPass))
      (sSeq (sIf (tOrM (tNotM (tTr (mP1 (isiQ "int") (mP2 idxP (mVar 4) (mC (.int 0)))))) (tOrM (tTr (mP1 (isiQ "bool") (mP2 idxP (mVar 4) (mC (.int 0))))) (tNotM (tB (mChain leP ltP (mC (.int 0)) (mP2 idxP (mVar 4) (mC (.int 0))) (mPn lenP [mP2 idxP (mVar 0) (mC (.int 2))])))))) (sRet (mC .non)) (sPass))
      (sSeq (sAsg (.tp [.nm 5, .nm 6, .nm 7]) (mP2 idxP (mP2 idxP (mVar 0) (mC (.int 2))) (mP2 idxP (mVar 4) (mC (.int 0)))))
      (sSeq (sIf (tB (mP2 neP (mVar 1) (mIf (tTr (mP2 idxP (mVar 4) (mC (.int 1)))) (mVar 5) (mVar 6)))) (sRet (mC .non)) (sPass))
      (sSeq (sSet 1 (mIf (tTr (mP2 idxP (mVar 4) (mC (.int 1)))) (mVar 6) (mVar 5)))
      (sSet 3 (mP2 addP (mVar 3) (mIf (tTr (mP2 idxP (mVar 4) (mC (.int 1)))) (mVar 7) (mP1 negP (mVar 7)))))))))) [4, 5, 6, 7])
    (sRet (mTup [mVar 1, mP2 modP (mVar 3) (mP2 idxP (mVar 0) (mC (.int 1)))]))))
def f_l_led : Fn := runF 8 (b_l_led)
def b_l_told : SM :=
    sSeq (sAsg (.tp [.nm 3, .nm 4]) (mCall f_l_marks [mVar 0, mPn lenP [mP2 idxP (mVar 0) (mC (.int 2))]]))
    (sSeq (sIf (tB (mP2 neP (mP2 idxP (mVar 3) (mVar 1)) (mP2 idxP (mVar 3) (mVar 2)))) (sRet (mC .non)) (sPass))
    (sRet (mP2 modP (mP2 subP (mP2 idxP (mVar 4) (mVar 2)) (mP2 idxP (mVar 4) (mVar 1))) (mP2 idxP (mVar 0) (mC (.int 1))))))
def f_l_told : Fn := runF 5 (b_l_told)
end Z

end
section
namespace Z
open PySem L2
local macro_rules | `(tactic| tbr_iter [$ts,*]) => `(tactic| simp (disch := first | assumption | omega | decide | (simp only [List.length_map, List.length_cons, List.length_nil, List.length_append, List.length_range, List.length_take, List.length_drop]; omega)) only [ev_var0s, ev_varS, ev_c, dr_p, dr_0, dr_S, pu_pl, pu_pd, pu_pdT, retO_s, ev_mv, fMv_ref, fMvx_s, ev_p1, fP1_ok, fP1d_s, ev_p2, fP2a_ok, fP2a_exc, fP2b_ok, fP2b_exc, fP2c_s, evs_nil, evs_cons, fEa_ok, fEa_exc, fEb_ok, fEb_exc, drs_nil, drs_cons, fDc_s, ev_pn, fPn_ok, fPn_exc, fPd_s, purs_nil, purs_cons, ev_tup, fTup_ok, fTup_exc, fTd_s, ev_lst, fLst_ok, fLst_exc, fLd_s, ev_newL, fNewL_ok, fNewL_exc, fNd_s, ev_newD, ev_and, fAnd_t, fAnd_f, fAnd_exc, ev_or, fOr_t, fOr_f, fOr_exc, ev_not, fNot_b, fNot_exc, ev_if, fIf_t, fIf_f, fIf_exc, ev_tB, ftB_b, ftB_exc, ev_tTr, ftT_ok, ftT_exc, ftTd_s, tr_non, tr_bl, tr_int, tr_tup, tr_lst, tr_0, tr_S, otr_pl, ev_tand, ftAnd_t, ftAnd_f, ftAnd_exc, ev_tor, ftOr_t, ftOr_f, ftOr_exc, ev_tnot, ftNot_b, ftNot_exc, ev_tyes, ev_sl, fSa_ok, fSa_exc, fSb_ok, fSc_ok, fSd_s, evO_n, evO_s, fO_i, ev_ch, fCa_ok, fCb_ok, fCc_t, fCc_f, ev_call, fCall_ok, fCall_exc, fRp_ok, fRp_exc, cv_1, cv_2, cv_3, cv_4, cv_5, fRt_ok, ev_lc, it_seq, fSeq_t, fSeq_l, it_en, fEn_t, fEn_l, it_r1, fR1_ok, it_r2, fR2a_ok, fR2b_ok, it_z, fZa_ok, fZb_t, fZb_l, ev_me, fMa_ok, fMb_t, fMc_ok, fMc_exc, la_0, la_r0, la_S, fPush_s, app_S, ext_S, W_seq, W_pass, Wn_cons, Wn_nil, W_set, wSet_ok, wSet_exc, W_expr, wEx_ok, wEx_exc, W_ret, wRet_ok, wRet_exc, W_if, wIf_t, wIf_f, wIf_exc, W_brk, W_cont, W_raise, W_asg, wAsg_ok, wAsg_exc, wA_s, asg_nm, asg_tp, asg_tpl, asgs_nil, asgs_cons, fAs_s, W_par2, wPa_ok, wPa_exc, wPb_ok, wPb_exc, clr_nil, clr_cons, W_for, wFor_ok, wFor_exc, IQ_nx, IQ_ct, IQ_bk, IQ_rt, IQ_ex, wB_s, lcE1_s, lcE2_t, lcE2_f, lcE3_s, fLm_s, fLt_s, fLc_ok, o_mod, o_fdiv, o_mulR, o_mulL, o_addT, o_addL, o_sumT, o_sumL, o_app, o_ext, cut_map, cut_0j, cut_i, atI_map, atI_i, all_b, any_b, is_t, is_tl, is_ti, is_tb, is_tn, is_ts, is_i, is_ib, is_it, is_il, is_in, is_is, is_b, is_bi, is_bt, is_bl, is_bn, is_bs, tk_map, dp_map, app_map, neP_nn, neP_in, neP_ni, eqP_nn, eqP_in, eqP_ni, neP_bb, eqP_bb, ssm_fold, in_bl, ev_ixo, fIxa_ok, fIxb_bl, fIxc_s, ev_notT, fNotT_ok, fNotTd_s, W_par3, wP3a_ok, wP3b_ok, wP3c_ok, ev_rg1, fG1_ok, ev_rg2, fG2a_ok, fG2b_ok, ev_lstRg, ev_tupRg, ev_newRg, fLR_ok, fTR_ok, fNR_ok, ev_newOf, fNO_ok, fNOd_t, fNOd_l, setS_0, setS_S, W_sub, wS1_ok, wS2_ok, wS3_ok, wS4_s, TQ_nx, TQ_rt, TQ_ex, wTr_hit, wTr_miss, wTr_nil, rv_t, rv_l, rv_map, notIn_key, in_key, SQ_nx, SQ_rt, SQ_bk, SQ_ct, SQ_ex, addP_i, subP_i, negP_i, ltP_i, leP_i, gtP_i, geP_i, isP_n, isP_i, isP_b, isP_t, isP_l, isP_s, isNotP_n, isNotP_i, isNotP_b, isNotP_t, isNotP_l, isNotP_s, isP_bb, isNotP_bb, idxP_t, idxP_l, atI_0, atI_1, atI_2, sliceP_t, sliceP_l, lenP_t, lenP_l, lenP_f, tupleP_t, tupleP_l, listP_t, listP_l, minP_i, maxP_i, intP_i, intP_b, eqP_int, neP_int, List.set_cons_zero, List.set_cons_succ, List.length_cons, List.length_nil, List.map_cons, List.map_nil, List.length_map, List.cons_append, List.nil_append, List.append_nil, Option.map_some, Int.toNat_natCast, Int.reduceToNat, List.getElem?_map, List.getElem?_cons_zero, List.getElem?_cons_succ, List.replicate_zero, List.replicate_succ, Nat.sub_self, Nat.reduceSub, Nat.reduceAdd, Bool.not_true, Bool.not_false, List.take_zero, List.take_succ_cons, and_true, true_and, decide_true, decide_false, Int.cast_ofNat_Int, Int.reduceEq, Int.reduceNe, Int.reduceLT, Int.reduceLE, $[$ts:term],*])
section
variable {env : Env} {S : List O} {v u : Val} {x y : P}
def fNMa (b : EM) (env : Env) (o : Out Val) : Out Val := bnd o fun v S1 => bnd (b env S1) fun u S2 => (deref S2 v).bind fun p => (deref S2 u).bind fun q => (repL p q).bind fun xs => some (.ok (.ref S2.length), S2 ++ [.pl xs])
def fNMb (v : Val) (o : Out Val) : Out Val := bnd o fun u S2 => (deref S2 v).bind fun p => (deref S2 u).bind fun q => (repL p q).bind fun xs => some (.ok (.ref S2.length), S2 ++ [.pl xs])
def fNMc (o o' : Option P) (S : List O) : Out Val := o.bind fun p => o'.bind fun q => (repL p q).bind fun xs => some (.ok (.ref S.length), S ++ [.pl xs])
theorem ev_newMul {a b : EM} : mNewMul a b env S = fNMa b env (a env S) := id rfl
theorem fNMa_ok {b : EM} : fNMa b env (some (.ok v, S)) = fNMb v (b env S) := id rfl
theorem fNMb_ok : fNMb v (some (.ok u, S)) = fNMc (deref S v) (deref S u) S := id rfl
theorem fNMc_s {k : Int} (h0 : 0 ≤ k) (h1 : k ≤ 1000) : fNMc (some (.lst [x])) (some (.int k)) S = some (.ok (.ref S.length), S ++ [.pl (List.replicate k.toNat x)]) := by
  unfold fNMc repL
  simp only [Option.bind_some, List.length_singleton, h0, h1, true_and]
  rw [if_pos (by omega)]
  simp only [Option.bind_some]
  congr 5
  induction k.toNat with
  | zero => rfl
  | succ n ih => rw [List.replicate_succ, List.flatten_cons, ih]; rfl
end
/-- a list of worths, mark by mark -/
def mkL (l : Int) (β : Int → Int) : List P := (List.range (l + 1).toNat).map fun i : Nat => P.int (β (i : Int))
theorem mkL_get {l : Int} {β : Int → Int} {x : Int} (h0 : 0 ≤ x) (h1 : x ≤ l) : (mkL l β)[x.toNat]? = some (.int (β x)) := by
  unfold mkL
  rw [List.getElem?_map, List.getElem?_range (by omega)]
  simp only [Option.map_some, Int.toNat_of_nonneg h0]
theorem mkL_getN {l : Int} {β : Int → Int} {s : Nat} (h1 : (s : Int) ≤ l) : (mkL l β)[s]? = some (.int (β s)) := by
  have := mkL_get (l := l) (β := β) (x := (s : Int)) (by omega) h1
  rwa [Int.toNat_natCast] at this
theorem mkL_at {l : Int} {β : Int → Int} {x : Int} (h0 : 0 ≤ x) (h1 : x ≤ l) : atI (mkL l β) x = some (.int (β x)) := by rw [atI_i h0, mkL_get h0 h1]
theorem mkL_len {l : Int} {β : Int → Int} : (mkL l β).length = (l + 1).toNat := by simp [mkL]
theorem mkL_set {l : Int} {β : Int → Int} {x v : Int} (h0 : 0 ≤ x) : (mkL l β).set x.toNat (.int v) = mkL l fun y => if y = x then v else β y := by
  unfold mkL
  apply List.ext_getElem?
  intro i
  by_cases hi : i < (l + 1).toNat
  · by_cases hx : x.toNat = i
    · subst hx
      rw [List.getElem?_set_self (by simpa using hi), List.getElem?_map, List.getElem?_range hi, Option.map_some]
      show some (P.int v) = some (P.int (if ((x.toNat : Nat) : Int) = x then v else β ((x.toNat : Nat) : Int)))
      rw [if_pos (by omega)]
    · rw [List.getElem?_set_ne hx, List.getElem?_map, List.getElem?_range hi, Option.map_some, List.getElem?_map, List.getElem?_range hi, Option.map_some]
      show some (P.int (β (i : Int))) = some (P.int (if (i : Int) = x then v else β (i : Int)))
      rw [if_neg (by omega)]
  · rw [List.getElem?_eq_none (by simp; omega), List.getElem?_eq_none (by simp; omega)]
theorem setS_mk {l : Int} {β : Int → Int} {x v : Int} {S : List O} (h0 : 0 ≤ x) (h1 : x ≤ l) : setS 0 x (.int v) (.pl (mkL l β) :: S) = some (.pl (mkL l fun y => if y = x then v else β y) :: S) := by
  rw [setS_0 h0 (by rw [mkL_len]; omega), mkL_set h0]
/-- marks told group by group -/
structure Mk (l m : Int) (d : List F3) (β lam : Int → Int) : Prop where
  base : ∀ x y, 0 ≤ x → x ≤ l → 0 ≤ y → y ≤ l → (β x = β y ↔ Conn d x y)
  lead : Pot m d lam
theorem Mk.same {l m : Int} {d : List F3} {β lam : Int → Int} (M : Mk l m d β lam) {f : F3} (hf : 0 ≤ f.1 ∧ f.1 < f.2.1 ∧ f.2.1 ≤ l) (e : β f.1 = β f.2.1) (hr : (lam f.2.1 - lam f.1 - f.2.2) % m = 0) : Mk l m (d ++ [f]) β lam := by
  have hc := (M.base f.1 f.2.1 (by omega) (by omega) (by omega) (by omega)).mp e
  refine ⟨fun x y x0 x1 y0 y1 => ?_, fun g hg => ?_⟩
  · rw [M.base x y x0 x1 y0 y1, conn_snoc]
    constructor
    · exact .inl
    · rintro (q | ⟨q1, q2⟩ | ⟨q1, q2⟩)
      · exact q
      · exact (q1.trans hc).trans q2
      · exact (q1.trans hc.symm).trans q2
  · rcases List.mem_append.mp hg with z | z
    · exact M.lead g z
    · rw [List.mem_singleton.mp z]; exact hr
theorem Mk.join {l m : Int} {d : List F3} {β lam : Int → Int} (hm : 0 < m) (M : Mk l m d β lam) (hd : ∀ g ∈ d, 0 ≤ g.1 ∧ g.1 < g.2.1 ∧ g.2.1 ≤ l) {f : F3} (hf : 0 ≤ f.1 ∧ f.1 < f.2.1 ∧ f.2.1 ≤ l) (e : ¬ β f.1 = β f.2.1) :
    Mk l m (d ++ [f]) (fun x => if β x = β f.2.1 then β f.1 else β x) (fun x => if β x = β f.2.1 then (lam x + (lam f.1 + f.2.2 - lam f.2.1)) % m else lam x) := by
  refine ⟨fun x y x0 x1 y0 y1 => ?_, fun g hg => ?_⟩
  · have cx := M.base x f.1 x0 x1 (by omega) (by omega)
    have cx2 := M.base x f.2.1 x0 x1 (by omega) (by omega)
    have cy := M.base y f.1 y0 y1 (by omega) (by omega)
    have cy2 := M.base y f.2.1 y0 y1 (by omega) (by omega)
    have cxy := M.base x y x0 x1 y0 y1
    rw [conn_snoc]
    by_cases hx : β x = β f.2.1 <;> by_cases hy : β y = β f.2.1
    · simp only [hx, hy, if_true, true_iff]
      exact .inl (cxy.mp (hx.trans hy.symm))
    · simp only [hx, hy, if_true, if_false]
      constructor
      · intro z
        exact .inr (.inr ⟨cx2.mp hx, (cy.mp z.symm).symm⟩)
      · rintro (q | ⟨q1, q2⟩ | ⟨q1, q2⟩)
        · exact absurd ((cxy.mpr q).symm.trans hx) hy
        · exact absurd (cy2.mpr q2.symm) hy
        · exact (cy.mpr q2.symm).symm
    · simp only [hx, hy, if_true, if_false]
      constructor
      · intro z
        exact .inr (.inl ⟨cx.mp z, (cy2.mp hy).symm⟩)
      · rintro (q | ⟨q1, q2⟩ | ⟨q1, q2⟩)
        · exact absurd ((cxy.mpr q).trans hy) hx
        · exact cx.mpr q1
        · exact absurd (cx2.mpr q1) hx
    · simp only [hx, hy, if_false]
      rw [cxy]
      constructor
      · exact .inl
      · rintro (q | ⟨q1, q2⟩ | ⟨q1, q2⟩)
        · exact q
        · exact absurd (cy2.mpr q2.symm) hy
        · exact absurd (cx2.mpr q1) hx
  · rcases List.mem_append.mp hg with z | z
    · have hp := M.lead g z
      have hgd := hd g z
      have hc := (M.base g.1 g.2.1 (by omega) (by omega) (by omega) (by omega)).mpr (Conn.fact z)
      simp only [hc]
      by_cases hx : β g.2.1 = β f.2.1
      · simp only [hx, if_true]
        have e1 : ((lam g.2.1 + (lam f.1 + f.2.2 - lam f.2.1)) % m - (lam g.2.1 + (lam f.1 + f.2.2 - lam f.2.1))) % m = 0 := eq_mod0 (Int.emod_emod_of_dvd _ (Int.dvd_refl m))
        have e2 : ((lam g.1 + (lam f.1 + f.2.2 - lam f.2.1)) % m - (lam g.1 + (lam f.1 + f.2.2 - lam f.2.1))) % m = 0 := eq_mod0 (Int.emod_emod_of_dvd _ (Int.dvd_refl m))
        have := Int.dvd_add (Int.dvd_sub (Int.dvd_of_emod_eq_zero e1) (Int.dvd_of_emod_eq_zero e2)) (Int.dvd_of_emod_eq_zero hp)
        refine Int.emod_eq_zero_of_dvd ?_
        refine (by simpa using this : _) |> fun h => ?_
        have e3 : (lam g.2.1 + (lam f.1 + f.2.2 - lam f.2.1)) % m - (lam g.1 + (lam f.1 + f.2.2 - lam f.2.1)) % m - g.2.2 = (lam g.2.1 + (lam f.1 + f.2.2 - lam f.2.1)) % m - (lam g.2.1 + (lam f.1 + f.2.2 - lam f.2.1)) - ((lam g.1 + (lam f.1 + f.2.2 - lam f.2.1)) % m - (lam g.1 + (lam f.1 + f.2.2 - lam f.2.1))) + (lam g.2.1 - lam g.1 - g.2.2) := by omega
        rw [e3]
        exact this
      · simp only [hx, if_false]
        exact hp
    · rw [List.mem_singleton.mp z]
      simp only [if_true, e, if_false]
      have e1 : ((lam f.2.1 + (lam f.1 + f.2.2 - lam f.2.1)) % m - (lam f.2.1 + (lam f.1 + f.2.2 - lam f.2.1))) % m = 0 := eq_mod0 (Int.emod_emod_of_dvd _ (Int.dvd_refl m))
      rw [← e1]; congr 1; omega
theorem Mk.start {l m : Int} : Mk l m [] (fun x => x) (fun _ => 0) := ⟨fun x y _ _ _ _ => ⟨fun h => by rw [h]; exact Conn.refl _ _, conn_nil⟩, fun f hf => by simp at hf⟩

theorem rngL_mk (l : Int) : rngL 0 (l + 1 - 0).toNat = mkL l fun x => x := by
  unfold rngL mkL
  rw [Int.sub_zero]
  apply List.map_congr_left
  intro i _
  rw [Int.zero_add]
theorem rep_mk (l : Int) : List.replicate (l + 1).toNat (P.int 0) = mkL l fun _ => 0 := by
  unfold mkL
  rw [List.map_const', List.length_range]
theorem mkL_congr {l : Int} {β γ : Int → Int} (h : ∀ x, 0 ≤ x → x ≤ l → β x = γ x) : mkL l β = mkL l γ := by
  unfold mkL
  apply List.map_congr_left
  intro i hi
  have := List.mem_range.mp hi
  rw [h i (by omega) (by omega)]
/-- the hand's marks -/
theorem marks_eq (l m : Int) (fs : List F3) (n : Nat) (hm : 0 < m) (hl : 0 ≤ l) (hl2 : l ≤ 900) (hg : Gd l m fs) :
    (¬ Cons m (fs.take n) ∧ f_l_marks [.p (sP l m fs), .p (.int (n : Int))] [] = some (.ok (.p .non), [])) ∨ ∃ β lam, Mk l m (fs.take n) β lam ∧ f_l_marks [.p (sP l m fs), .p (.int (n : Int))] [] = some (.ok (.p (.tup [.lst (mkL l β), .lst (mkL l lam)])), []) := by
  have key : ∃ x S1, f_l_marks [.p (sP l m fs), .p (.int (n : Int))] [] = some (.ok (.p x), S1) ∧ S1 = [] ∧ ((¬ Cons m (fs.take n) ∧ x = .non) ∨ ∃ β lam, Mk l m (fs.take n) β lam ∧ x = .tup [.lst (mkL l β), .lst (mkL l lam)]) := by
    refine fn_Wx (k := 10) ?_ (by rintro x S1 ⟨rfl, _⟩; rfl)
    unfold b_l_marks
    tbr_iter [ev_newMul, fNMa_ok, fNMb_ok, fNMc_s]
    rw [rngL_mk, rep_mk]
    refine W_pre (σ := (Int → Int) × (Int → Int)) (fs.take n) fP (fun _ => [some (.p (sP l m fs)), some (.p (.int (n : Int))), some (.ref 0), some (.ref 1), none, none, none, none, none, none]) (fun s => [.pl (mkL l s.1), .pl (mkL l s.2)]) (fun d s => Mk l m d s.1 s.2) (fun x => x, fun _ => 0) rfl rfl Mk.start ?_ ?_
    · rintro d f w ⟨β, lam⟩ hd M
      simp only at M
      have hfm : f ∈ fs.take n := by rw [hd]; simp
      have gf := hg f (List.mem_of_mem_take hfm)
      have hdg : ∀ g ∈ d, 0 ≤ g.1 ∧ g.1 < g.2.1 ∧ g.2.1 ≤ l := fun g hg2 => by
        have := hg g (List.mem_of_mem_take (show g ∈ fs.take n by rw [hd]; simp [hg2]))
        omega
      have ib1 := mkL_get (l := l) (β := β) (x := f.1) gf.1 (by omega)
      have ib2 := mkL_get (l := l) (β := β) (x := f.2.1) (by omega) gf.2.2.1
      have il1 := mkL_get (l := l) (β := lam) (x := f.1) gf.1 (by omega)
      have il2 := mkL_get (l := l) (β := lam) (x := f.2.1) (by omega) gf.2.2.1
      tbr_iter [ib1, ib2, il1, il2]
      rw [wIf_c]
      refine ⟨fun h => ?_, fun h => ?_⟩
      · have h : ¬ β f.1 = β f.2.1 := by simpa using h
        tbr_iter [ib1, ib2, il1, il2]
        refine W_rng (σ := Nat) 0 (l + 1).toNat (fun _ => [some (.p (sP l m fs)), some (.p (.int (n : Int))), some (.ref 0), some (.ref 1), some (.p (.int f.1)), some (.p (.int f.2.1)), some (.p (.int f.2.2)), some (.p (.int (β f.2.1))), some (.p (.int (lam f.1 + f.2.2 - lam f.2.1))), none]) (fun s => [.pl (mkL l fun x => if x < (s : Int) ∧ β x = β f.2.1 then β f.1 else β x), .pl (mkL l fun x => if x < (s : Int) ∧ β x = β f.2.1 then (lam x + (lam f.1 + f.2.2 - lam f.2.1)) % m else lam x)]) (fun i s => s = i) 0 rfl ?_ rfl ?_ ?_
        · rw [mkL_congr (β := β) (γ := fun x => if x < ((0 : Nat) : Int) ∧ β x = β f.2.1 then β f.1 else β x) (fun x x0 _ => by show _ = ite _ _ _; rw [if_neg (by omega)]), mkL_congr (β := lam) (γ := fun x => if x < ((0 : Nat) : Int) ∧ β x = β f.2.1 then (lam x + (lam f.1 + f.2.2 - lam f.2.1)) % m else lam x) (fun x x0 _ => by show _ = ite _ _ _; rw [if_neg (by omega)])]
        · rintro i s hi rfl
          have hi0 : (0 : Int) ≤ (s : Int) := by omega
          have hi1 : (s : Int) ≤ l := by omega
          have gN := fun γ : Int → Int => mkL_getN (l := l) (β := γ) (s := s) hi1
          have n1 : ¬ ((s : Int) < (s : Int) ∧ β (s : Int) = β f.2.1) := by omega
          have n2 : ¬ (f.1 < (s : Int) ∧ β f.1 = β f.2.1) := fun q => h q.2
          tbr_iter [Int.zero_add, mkL_get, gN, if_neg n1]
          rw [wIf_c]
          refine ⟨fun h3 => ?_, fun h3 => ?_⟩
          · have h3 := of_decide_eq_true h3
            tbr_iter [Int.zero_add, mkL_get, gN, if_neg n1, if_neg n2, setS_mk]
            refine ⟨s + 1, ?_, rfl⟩
            congr 1
            · congr 1
              apply mkL_congr
              intro x x0 x1
              by_cases hx : x = (s : Int)
              · rw [if_pos hx, if_pos (by rw [hx]; exact ⟨by omega, h3⟩)]
              · rw [if_neg hx]
                by_cases hc : x < (s : Int) ∧ β x = β f.2.1
                · rw [if_pos hc, if_pos ⟨by omega, hc.2⟩]
                · rw [if_neg hc, if_neg fun q => hc ⟨by omega, q.2⟩]
            · congr 2
              apply mkL_congr
              intro x x0 x1
              by_cases hx : x = (s : Int)
              · rw [if_pos hx, if_pos (by rw [hx]; exact ⟨by omega, h3⟩), hx]
              · rw [if_neg hx]
                by_cases hc : x < (s : Int) ∧ β x = β f.2.1
                · rw [if_pos hc, if_pos ⟨by omega, hc.2⟩]
                · rw [if_neg hc, if_neg fun q => hc ⟨by omega, q.2⟩]
          · have h3 := of_decide_eq_false h3
            tbr_iter []
            refine ⟨s + 1, ?_, rfl⟩
            congr 1
            · congr 1
              apply mkL_congr
              intro x x0 x1
              by_cases hc : x < (s : Int) ∧ β x = β f.2.1
              · rw [if_pos hc, if_pos ⟨by omega, hc.2⟩]
              · rw [if_neg hc, if_neg fun q => hc ⟨by
                  by_cases hx : x = (s : Int)
                  · rw [hx] at q; exact absurd q.2 h3
                  · omega, q.2⟩]
            · congr 2
              apply mkL_congr
              intro x x0 x1
              by_cases hc : x < (s : Int) ∧ β x = β f.2.1
              · rw [if_pos hc, if_pos ⟨by omega, hc.2⟩]
              · rw [if_neg hc, if_neg fun q => hc ⟨by
                  by_cases hx : x = (s : Int)
                  · rw [hx] at q; exact absurd q.2 h3
                  · omega, q.2⟩]
        · rintro s rfl
          tbr_iter []
          refine ⟨(fun x => if β x = β f.2.1 then β f.1 else β x, fun x => if β x = β f.2.1 then (lam x + (lam f.1 + f.2.2 - lam f.2.1)) % m else lam x), ?_, M.join hm hdg ⟨gf.1, gf.2.1, gf.2.2.1⟩ h⟩
          congr 1
          · congr 1
            apply mkL_congr
            intro x x0 x1
            have : x < (((l + 1).toNat : Nat) : Int) := by omega
            simp only [this, true_and]
          · congr 2
            apply mkL_congr
            intro x x0 x1
            have : x < (((l + 1).toNat : Nat) : Int) := by omega
            simp only [this, true_and]
      · have h : β f.1 = β f.2.1 := by simpa using h
        tbr_iter [ib1, ib2, il1, il2]
        rw [wIf_c]
        refine ⟨fun h2 => ?_, fun h2 => ?_⟩
        · have h2 : ¬ (lam f.2.1 - lam f.1 - f.2.2) % m = 0 := by simpa using h2
          tbr_iter []
          refine ⟨_, rfl, .inl ⟨fun hc => h2 ?_, rfl⟩⟩
          have hc2 : Cons m (d ++ [f]) := hc.sub fun g hg2 => by
            rw [hd]
            rcases List.mem_append.mp hg2 with z | z
            · simp [z]
            · rw [List.mem_singleton.mp z]; simp
          exact (cons_snoc M.lead f).mp hc2 ((M.base f.1 f.2.1 (by omega) (by omega) (by omega) (by omega)).mp h)
        · have h2 : (lam f.2.1 - lam f.1 - f.2.2) % m = 0 := by simpa using h2
          tbr_iter []
          exact ⟨(β, lam), rfl, M.same ⟨gf.1, gf.2.1, gf.2.2.1⟩ h h2⟩
    · rintro ⟨β, lam⟩ M
      simp only at M
      tbr_iter []
      exact ⟨_, rfl, .inr ⟨β, lam, M, rfl⟩⟩
  obtain ⟨x, S1, h, rfl, h2⟩ := key
  rcases h2 with ⟨h1, rfl⟩ | ⟨β, lam, h1, rfl⟩
  · exact .inl ⟨h1, h⟩
  · exact .inr ⟨β, lam, h1, h⟩
end Z

end
section
namespace Z
open PySem L2
local macro_rules | `(tactic| tbr_iter [$ts,*]) => `(tactic| simp (disch := first | assumption | omega | decide | (simp only [List.length_map, List.length_cons, List.length_nil, List.length_append, List.length_range, List.length_take, List.length_drop]; omega)) only [ev_var0s, ev_varS, ev_c, dr_p, dr_0, dr_S, pu_pl, pu_pd, pu_pdT, retO_s, ev_mv, fMv_ref, fMvx_s, ev_p1, fP1_ok, fP1d_s, ev_p2, fP2a_ok, fP2a_exc, fP2b_ok, fP2b_exc, fP2c_s, evs_nil, evs_cons, fEa_ok, fEa_exc, fEb_ok, fEb_exc, drs_nil, drs_cons, fDc_s, ev_pn, fPn_ok, fPn_exc, fPd_s, purs_nil, purs_cons, ev_tup, fTup_ok, fTup_exc, fTd_s, ev_lst, fLst_ok, fLst_exc, fLd_s, ev_newL, fNewL_ok, fNewL_exc, fNd_s, ev_newD, ev_and, fAnd_t, fAnd_f, fAnd_exc, ev_or, fOr_t, fOr_f, fOr_exc, ev_not, fNot_b, fNot_exc, ev_if, fIf_t, fIf_f, fIf_exc, ev_tB, ftB_b, ftB_exc, ev_tTr, ftT_ok, ftT_exc, ftTd_s, tr_non, tr_bl, tr_int, tr_tup, tr_lst, tr_0, tr_S, otr_pl, ev_tand, ftAnd_t, ftAnd_f, ftAnd_exc, ev_tor, ftOr_t, ftOr_f, ftOr_exc, ev_tnot, ftNot_b, ftNot_exc, ev_tyes, ev_sl, fSa_ok, fSa_exc, fSb_ok, fSc_ok, fSd_s, evO_n, evO_s, fO_i, ev_ch, fCa_ok, fCb_ok, fCc_t, fCc_f, ev_call, fCall_ok, fCall_exc, fRp_ok, fRp_exc, cv_1, cv_2, cv_3, cv_4, cv_5, fRt_ok, ev_lc, it_seq, fSeq_t, fSeq_l, it_en, fEn_t, fEn_l, it_r1, fR1_ok, it_r2, fR2a_ok, fR2b_ok, it_z, fZa_ok, fZb_t, fZb_l, ev_me, fMa_ok, fMb_t, fMc_ok, fMc_exc, la_0, la_r0, la_S, fPush_s, app_S, ext_S, W_seq, W_pass, Wn_cons, Wn_nil, W_set, wSet_ok, wSet_exc, W_expr, wEx_ok, wEx_exc, W_ret, wRet_ok, wRet_exc, W_if, wIf_t, wIf_f, wIf_exc, W_brk, W_cont, W_raise, W_asg, wAsg_ok, wAsg_exc, wA_s, asg_nm, asg_tp, asg_tpl, asgs_nil, asgs_cons, fAs_s, W_par2, wPa_ok, wPa_exc, wPb_ok, wPb_exc, clr_nil, clr_cons, W_for, wFor_ok, wFor_exc, IQ_nx, IQ_ct, IQ_bk, IQ_rt, IQ_ex, wB_s, lcE1_s, lcE2_t, lcE2_f, lcE3_s, fLm_s, fLt_s, fLc_ok, o_mod, o_fdiv, o_mulR, o_mulL, o_addT, o_addL, o_sumT, o_sumL, o_app, o_ext, cut_map, cut_0j, cut_i, atI_map, atI_i, all_b, any_b, is_t, is_tl, is_ti, is_tb, is_tn, is_ts, is_i, is_ib, is_it, is_il, is_in, is_is, is_b, is_bi, is_bt, is_bl, is_bn, is_bs, tk_map, dp_map, app_map, neP_nn, neP_in, neP_ni, eqP_nn, eqP_in, eqP_ni, neP_bb, eqP_bb, ssm_fold, in_bl, ev_ixo, fIxa_ok, fIxb_bl, fIxc_s, ev_notT, fNotT_ok, fNotTd_s, W_par3, wP3a_ok, wP3b_ok, wP3c_ok, ev_rg1, fG1_ok, ev_rg2, fG2a_ok, fG2b_ok, ev_lstRg, ev_tupRg, ev_newRg, fLR_ok, fTR_ok, fNR_ok, ev_newOf, fNO_ok, fNOd_t, fNOd_l, setS_0, setS_S, W_sub, wS1_ok, wS2_ok, wS3_ok, wS4_s, TQ_nx, TQ_rt, TQ_ex, wTr_hit, wTr_miss, wTr_nil, rv_t, rv_l, rv_map, notIn_key, in_key, SQ_nx, SQ_rt, SQ_bk, SQ_ct, SQ_ex, addP_i, subP_i, negP_i, ltP_i, leP_i, gtP_i, geP_i, isP_n, isP_i, isP_b, isP_t, isP_l, isP_s, isNotP_n, isNotP_i, isNotP_b, isNotP_t, isNotP_l, isNotP_s, isP_bb, isNotP_bb, idxP_t, idxP_l, atI_0, atI_1, atI_2, sliceP_t, sliceP_l, lenP_t, lenP_l, lenP_f, tupleP_t, tupleP_l, listP_t, listP_l, minP_i, maxP_i, intP_i, intP_b, eqP_int, neP_int, List.set_cons_zero, List.set_cons_succ, List.length_cons, List.length_nil, List.map_cons, List.map_nil, List.length_map, List.cons_append, List.nil_append, List.append_nil, Option.map_some, Int.toNat_natCast, Int.reduceToNat, List.getElem?_map, List.getElem?_cons_zero, List.getElem?_cons_succ, List.replicate_zero, List.replicate_succ, Nat.sub_self, Nat.reduceSub, Nat.reduceAdd, Bool.not_true, Bool.not_false, List.take_zero, List.take_succ_cons, and_true, true_and, implies_true, decide_true, decide_false, Int.cast_ofNat_Int, Int.reduceEq, Int.reduceNe, Int.reduceLT, Int.reduceLE, $[$ts:term],*])
theorem l_clash_eq (l m : Int) (fs : List F3) (hm : 0 < m) (hl : 0 ≤ l) (hl2 : l ≤ 900) (hg : Gd l m fs) (hf : fs.length ≤ 1000) : ∃ r, ClashRes m fs r ∧ f_l_clash [.p (sP l m fs)] [] = some (.ok (.p (optN r)), []) := by
  have key : ∃ x S1, f_l_clash [.p (sP l m fs)] [] = some (.ok (.p x), S1) ∧ ∃ r, x = optN r ∧ S1 = [] ∧ ClashRes m fs r := by
    refine fn_Wx (k := 2) ?_ (by rintro x S1 ⟨r, rfl, rfl, _⟩; rfl)
    unfold b_l_clash
    tbr_iter []
    have hn : ((fs.length : Int) + 1 - 1).toNat = fs.length := by omega
    rw [hn]
    refine W_rng (σ := Unit) 1 fs.length (fun _ => [some (.p (sP l m fs)), none]) (fun _ => []) (fun i _ => Cons m (fs.take i)) () rfl rfl (by rw [List.take_zero]; exact Cons.nil) ?_ ?_
    · rintro i s hi hc
      have e0 : (1 : Int) + (i : Int) = ((i + 1 : Nat) : Int) := by omega
      have e2 : ((i + 1 : Nat) : Int) - 1 = (i : Int) := by omega
      rcases marks_eq l m fs (i + 1) hm hl hl2 hg with ⟨h1, h2⟩ | ⟨β, lam, h1, h2⟩
      · tbr_iter [e0, h2, e2]
        exact ⟨_, rfl, some i, rfl, hi, hc, h1⟩
      · tbr_iter [e0, h2]
        exact ⟨(), lam, h1.lead⟩
    · rintro s hc
      rw [List.take_length] at hc
      tbr_iter []
      exact ⟨_, rfl, none, rfl, hc⟩
  obtain ⟨x, S1, h, r, rfl, rfl, h2⟩ := key
  exact ⟨r, h2, h⟩
theorem l_told_eq (l m : Int) (fs : List F3) (hm : 0 < m) (hl : 0 ≤ l) (hl2 : l ≤ 900) (hg : Gd l m fs) (hc : Cons m fs) : ∃ lam, Pot m fs lam ∧ ∀ a b, 0 ≤ a → a ≤ l → 0 ≤ b → b ≤ l →
    (Conn fs a b ∧ f_l_told [.p (sP l m fs), .p (.int a), .p (.int b)] [] = some (.ok (.p (.int ((lam b - lam a) % m))), [])) ∨ (¬ Conn fs a b ∧ f_l_told [.p (sP l m fs), .p (.int a), .p (.int b)] [] = some (.ok (.p .non), [])) := by
  have hm2 := marks_eq l m fs fs.length hm hl hl2 hg
  rw [List.take_length] at hm2
  rcases hm2 with ⟨h1, _⟩ | ⟨β, lam, M, h2⟩
  · exact (h1 hc).elim
  · refine ⟨lam, M.lead, fun a b a0 a1 b0 b1 => ?_⟩
    have hb := M.base a b a0 a1 b0 b1
    by_cases h : β a = β b
    · refine .inl ⟨hb.mp h, fn_W (k := 5) ?_ rfl⟩
      unfold b_l_told
      tbr_iter [h2, mkL_get, h]
    · refine .inr ⟨fun q => h (hb.mpr q), fn_W (k := 5) ?_ rfl⟩
      unfold b_l_told
      tbr_iter [h2, mkL_get, h]
theorem l_led_eq (l m : Int) (fs : List F3) (a : Int) (p : List St) (hm : 0 < m) (hv : Vs fs p) : f_l_led [.p (sP l m fs), .p (.int a), .p (stsP p)] [] = some (.ok (.p (optL m fs p (walk fs a p))), []) := by
  refine fn_W (k := 8) ?_ rfl
  unfold b_l_led
  tbr_iter []
  refine W_pre (σ := Int × Int) p stP (fun s => [some (.p (sP l m fs)), some (.p (.int s.1)), some (.p (stsP p)), some (.p (.int s.2)), none, none, none, none]) (fun _ => []) (fun d s => walk fs a d = some s.1 ∧ s.2 = walkR fs d) (a, 0) rfl rfl ⟨rfl, rfl⟩ ?_ ?_
  · rintro d ⟨n, b⟩ w ⟨x, t⟩ hd ⟨h1, h2⟩
    simp only at h1 h2
    have hn : n < fs.length := hv (n, b) (by rw [hd]; simp)
    obtain ⟨f, hf⟩ : ∃ f, fs[n]? = some f := ⟨_, List.getElem?_eq_getElem hn⟩
    have hsn : walk fs a (d ++ [(n, b)]) = stepTo fs x (n, b) := by rw [walk_snoc, h1]; rfl
    have hR : walkR fs (d ++ [(n, b)]) = t + stepR fs (n, b) := by
      unfold walkR at h2 ⊢
      rw [List.map_append, List.sum_append, ← h2]; simp
    have hdead : stepTo fs x (n, b) = none → walk fs a p = none := by
      intro h
      rw [hd, show d ++ (n, b) :: w = (d ++ [(n, b)]) ++ w by simp, walk_app, hsn, h]; rfl
    have d0 : decide ((0 : Int) ≤ (n : Int)) = true := decide_eq_true (by omega)
    have d1 : decide ((n : Int) < (fs.length : Int)) = true := decide_eq_true (by omega)
    cases b with
    | true =>
      tbr_iter [hf, d0, d1]
      rw [wIf_c]
      refine ⟨fun h => ?_, fun h => ?_⟩
      · have h : ¬ x = f.1 := by simpa using h
        have := hdead (by simp [stepTo, hf, Ne.symm h])
        tbr_iter [this]
      · have h : x = f.1 := by simpa using h
        tbr_iter []
        refine ⟨(f.2.1, t + f.2.2), rfl, ?_, ?_⟩
        · rw [hsn]; simp [stepTo, hf, h]
        · rw [hR]; simp [stepR, hf]
    | false =>
      tbr_iter [hf, d0, d1]
      rw [wIf_c]
      refine ⟨fun h => ?_, fun h => ?_⟩
      · have h : ¬ x = f.2.1 := by simpa using h
        have := hdead (by simp [stepTo, hf, Ne.symm h])
        tbr_iter [this]
      · have h : x = f.2.1 := by simpa using h
        tbr_iter []
        refine ⟨(f.1, t + -f.2.2), rfl, ?_, ?_⟩
        · rw [hsn]; simp [stepTo, hf, h]
        · rw [hR]; simp [stepR, hf]
  · rintro ⟨x, t⟩ ⟨h1, h2⟩
    simp only at h1 h2
    tbr_iter [h1]
    rw [h2]
theorem are_steps_ok (l m : Int) (fs : List F3) (p : List St) (hv : Vs fs p) : f_are_steps [.p (sP l m fs), .p (stsP p)] [] = some (.ok (.p (.bl true)), []) := by
  refine fn_W (k := 3) ?_ rfl
  unfold b_are_steps
  tbr_iter []
  refine W_pre (σ := Unit) p stP (fun _ => [some (.p (sP l m fs)), some (.p (stsP p)), none]) (fun _ => []) (fun _ _ => True) () rfl rfl trivial ?_ ?_
  · rintro d ⟨n, b⟩ w s hd -
    have hn : n < fs.length := hv (n, b) (by rw [hd]; simp)
    have d0 : decide ((0 : Int) ≤ (n : Int) ∧ (n : Int) ≤ (fs.length : Int) - 1) = true := decide_eq_true (by omega)
    tbr_iter [whole_i, d0]
    exact ⟨(), trivial⟩
  · rintro s -
    tbr_iter []
theorem is_ring_eq (l m : Int) (fs : List F3) (a : Int) (p : List St) (hm : 0 < m) (hv : Vs fs p) : f_is_ring [.p (sP l m fs), .p (.int a), .p (stsP p)] [] = some (.ok (.p (.bl (decide (walk fs a p = some a ∧ walkR fs p % m ≠ 0)))), []) := by
  have le := led_eq l m fs a p hm hv
  refine fn_W (k := 4) ?_ rfl
  unfold b_is_ring
  cases hw : walk fs a p with
  | none =>
    rw [hw] at le
    tbr_iter [are_steps_ok l m fs p hv, le]
    simp
  | some b =>
    rw [hw] at le
    tbr_iter [are_steps_ok l m fs p hv, le]
    by_cases hb : b = a
    · tbr_iter [hb]
      simp
    · tbr_iter [hb]
      simp [hb]
theorem fitting_eq (l m : Int) (fs : List F3) (hl : 0 ≤ l) (hl2 : l ≤ 1000) (hm : 0 < m) (hm2 : m ≤ 1000) (hs : ∀ k, k ≤ l.toNat → m.toNat ^ k ≤ 10000) (hg : Gd l m fs) : f_l_fitting [.p (sP l m fs)] [] = some (.ok (.p (.lst (((rowsL m l.toNat).filter fun r => fs.all (fitB m r)).map rP))), []) := by
  refine fn_W (k := 2) ?_ rfl
  unfold b_l_fitting
  have hlen := rowsL_len m l.toNat
  have := hs l.toNat (by omega)
  tbr_iter [rows_eq l m hl hl2 (by omega) hm2 hs]
  generalize hL : lcL _ _ _ _ _ _ _ = L
  obtain rfl := lcF hL (fun r => fs.all (fitB m r)) rP (by
    intro r _
    tbr_iter [l_fits_eq l m fs r hm (fun f hf => (hg f hf).2.2.2)]) (by omega)
  tbr_iter []
theorem lays_rows : ∀ rs : List (List Int), lays 15 (rs.map rP) = true
  | [] => rfl
  | r :: rs => by
    have : ∀ r : List Int, lays 14 (r.map P.int) = true := fun r => by
      induction r with
      | nil => rfl
      | cons x r ih => rw [List.map_cons, lays, ih]; rfl
    rw [List.map_cons, lays, lays_rows rs, lay, this]; rfl
theorem ne_rows (rs : List (List Int)) : neP (.lst (rs.map rP)) (.lst []) = some (.bl (!rs.isEmpty)) := by
  have h : lay 16 (.lst (rs.map rP)) = true := lays_rows rs
  unfold neP
  rw [h]
  cases rs <;> rfl
theorem fitting_nil {l m : Int} {fs : List F3} (hl : 0 ≤ l) (hm : 0 < m) (hg : Gd l m fs) : ((rowsL m l.toNat).filter fun r => fs.all (fitB m r)).isEmpty = true ↔ ¬ Cons m fs := by
  rw [List.isEmpty_iff, List.filter_eq_nil_iff, cons_row hm hl hg]
  constructor
  · rintro h ⟨r, ⟨h1, h2⟩, h3⟩
    exact h r ((rowsL_mem m l.toNat r).mpr ⟨by omega, h2⟩) (List.all_eq_true.mpr h3)
  · intro h r hr hall
    obtain ⟨h1, h2⟩ := (rowsL_mem m l.toNat r).mp hr
    exact h ⟨r, ⟨by omega, h2⟩, List.all_eq_true.mp hall⟩
/-- the ring that a clash leaves -/
theorem ring_ok {m : Int} {l : Int} {fs : List F3} {i : Nat} {f : F3} {p : List St} (hg : Gd l m fs) (hc : ClashRes m fs (some i)) (hf : fs[i]? = some f) (hw : walk (fs.take i) f.2.1 p = some f.1) : walk fs f.1 ((i, true) :: p) = some f.1 ∧ walkR fs ((i, true) :: p) % m ≠ 0 := by
  obtain ⟨hi, ⟨φ, hp⟩, hn⟩ := hc
  obtain ⟨w1, w2⟩ := walkR_take hw
  have hrest := hp.rest hw
  refine ⟨by rw [walk_cons, stepTo_on hf]; exact w1, fun h => hn ?_⟩
  rw [take_snoc hf]
  refine (cons_snoc hp f).mpr fun _ => ?_
  have e : walkR fs ((i, true) :: p) = f.2.2 + walkR fs p := by
    unfold walkR
    rw [List.map_cons, List.sum_cons]
    simp [stepR, hf]
  rw [e, ← w2] at h
  have h2 : (walkR (fs.take i) p - (φ f.1 - φ f.2.1)) % m = 0 := eq_mod0 hrest
  have e3 : φ f.2.1 - φ f.1 - f.2.2 = (walkR (fs.take i) p - (φ f.1 - φ f.2.1)) - (f.2.2 + walkR (fs.take i) p) := by omega
  rw [e3]
  exact Int.emod_eq_zero_of_dvd (Int.dvd_sub (Int.dvd_of_emod_eq_zero h2) (Int.dvd_of_emod_eq_zero h))
end Z

end
section
namespace Z
open PySem L2
def b_told_both : SM :=
    sSeq (sIf (tB (mP2 neP (mCall f_divisor [mP2 idxP (mVar 0) (mC (.int 1)), mP2 idxP (mVar 1) (mC (.int 1))]) (mC (.int 1)))) (sRaise "NoRest") (sPass))
    (sSeq (sSet 4 (mCall f_told [mVar 0, mVar 2, mVar 3]))
    (sSeq (sSet 5 (mCall f_told [mVar 1, mVar 2, mVar 3]))
    (sSeq (sIf (tOrM (tB (mP2 isP (mVar 4) (mC .non))) (tB (mP2 isP (mVar 5) (mC .non)))) (sRet (mC .non)) (sPass))
    (sSeq (sSet 6 (mVar 4))
    (sSeq (sWhile 1000000 (tB (mP2 neP (mP2 modP (mVar 6) (mP2 idxP (mVar 1) (mC (.int 1)))) (mVar 5))) (sSet 6 (mP2 addP (mVar 6) (mP2 idxP (mVar 0) (mC (.int 1))))) [])
    (sRet (mVar 6)))))))
def f_told_both : Fn := runF 7 (b_told_both)
end Z

end
section
namespace Z
open PySem L2
local macro_rules | `(tactic| tbr_iter [$ts,*]) => `(tactic| simp (disch := first | assumption | omega | decide | (simp only [List.length_map, List.length_cons, List.length_nil, List.length_append, List.length_range, List.length_take, List.length_drop]; omega)) only [ev_var0s, ev_varS, ev_c, dr_p, dr_0, dr_S, pu_pl, pu_pd, pu_pdT, retO_s, ev_mv, fMv_ref, fMvx_s, ev_p1, fP1_ok, fP1d_s, ev_p2, fP2a_ok, fP2a_exc, fP2b_ok, fP2b_exc, fP2c_s, evs_nil, evs_cons, fEa_ok, fEa_exc, fEb_ok, fEb_exc, drs_nil, drs_cons, fDc_s, ev_pn, fPn_ok, fPn_exc, fPd_s, purs_nil, purs_cons, ev_tup, fTup_ok, fTup_exc, fTd_s, ev_lst, fLst_ok, fLst_exc, fLd_s, ev_newL, fNewL_ok, fNewL_exc, fNd_s, ev_newD, ev_and, fAnd_t, fAnd_f, fAnd_exc, ev_or, fOr_t, fOr_f, fOr_exc, ev_not, fNot_b, fNot_exc, ev_if, fIf_t, fIf_f, fIf_exc, ev_tB, ftB_b, ftB_exc, ev_tTr, ftT_ok, ftT_exc, ftTd_s, tr_non, tr_bl, tr_int, tr_tup, tr_lst, tr_0, tr_S, otr_pl, ev_tand, ftAnd_t, ftAnd_f, ftAnd_exc, ev_tor, ftOr_t, ftOr_f, ftOr_exc, ev_tnot, ftNot_b, ftNot_exc, ev_tyes, ev_sl, fSa_ok, fSa_exc, fSb_ok, fSc_ok, fSd_s, evO_n, evO_s, fO_i, ev_ch, fCa_ok, fCb_ok, fCc_t, fCc_f, ev_call, fCall_ok, fCall_exc, fRp_ok, fRp_exc, cv_1, cv_2, cv_3, cv_4, cv_5, fRt_ok, ev_lc, it_seq, fSeq_t, fSeq_l, it_en, fEn_t, fEn_l, it_r1, fR1_ok, it_r2, fR2a_ok, fR2b_ok, it_z, fZa_ok, fZb_t, fZb_l, ev_me, fMa_ok, fMb_t, fMc_ok, fMc_exc, la_0, la_r0, la_S, fPush_s, app_S, ext_S, W_seq, W_pass, Wn_cons, Wn_nil, W_set, wSet_ok, wSet_exc, W_expr, wEx_ok, wEx_exc, W_ret, wRet_ok, wRet_exc, W_if, wIf_t, wIf_f, wIf_exc, W_brk, W_cont, W_raise, W_asg, wAsg_ok, wAsg_exc, wA_s, asg_nm, asg_tp, asg_tpl, asgs_nil, asgs_cons, fAs_s, W_par2, wPa_ok, wPa_exc, wPb_ok, wPb_exc, clr_nil, clr_cons, W_for, wFor_ok, wFor_exc, IQ_nx, IQ_ct, IQ_bk, IQ_rt, IQ_ex, wB_s, lcE1_s, lcE2_t, lcE2_f, lcE3_s, fLm_s, fLt_s, fLc_ok, o_mod, o_fdiv, o_mulR, o_mulL, o_addT, o_addL, o_sumT, o_sumL, o_app, o_ext, cut_map, cut_0j, cut_i, atI_map, atI_i, all_b, any_b, is_t, is_tl, is_ti, is_tb, is_tn, is_ts, is_i, is_ib, is_it, is_il, is_in, is_is, is_b, is_bi, is_bt, is_bl, is_bn, is_bs, tk_map, dp_map, app_map, neP_nn, neP_in, neP_ni, eqP_nn, eqP_in, eqP_ni, neP_bb, eqP_bb, ssm_fold, in_bl, ev_ixo, fIxa_ok, fIxb_bl, fIxc_s, ev_notT, fNotT_ok, fNotTd_s, W_par3, wP3a_ok, wP3b_ok, wP3c_ok, ev_rg1, fG1_ok, ev_rg2, fG2a_ok, fG2b_ok, ev_lstRg, ev_tupRg, ev_newRg, fLR_ok, fTR_ok, fNR_ok, ev_newOf, fNO_ok, fNOd_t, fNOd_l, setS_0, setS_S, W_sub, wS1_ok, wS2_ok, wS3_ok, wS4_s, TQ_nx, TQ_rt, TQ_ex, wTr_hit, wTr_miss, wTr_nil, rv_t, rv_l, rv_map, notIn_key, in_key, SQ_nx, SQ_rt, SQ_bk, SQ_ct, SQ_ex, addP_i, subP_i, negP_i, ltP_i, leP_i, gtP_i, geP_i, isP_n, isP_i, isP_b, isP_t, isP_l, isP_s, isNotP_n, isNotP_i, isNotP_b, isNotP_t, isNotP_l, isNotP_s, isP_bb, isNotP_bb, idxP_t, idxP_l, atI_0, atI_1, atI_2, sliceP_t, sliceP_l, lenP_t, lenP_l, lenP_f, tupleP_t, tupleP_l, listP_t, listP_l, minP_i, maxP_i, intP_i, intP_b, eqP_int, neP_int, List.set_cons_zero, List.set_cons_succ, List.length_cons, List.length_nil, List.map_cons, List.map_nil, List.length_map, List.cons_append, List.nil_append, List.append_nil, Option.map_some, Int.toNat_natCast, Int.reduceToNat, List.getElem?_map, List.getElem?_cons_zero, List.getElem?_cons_succ, List.replicate_zero, List.replicate_succ, Nat.sub_self, Nat.reduceSub, Nat.reduceAdd, Bool.not_true, Bool.not_false, List.take_zero, List.take_succ_cons, and_true, true_and, implies_true, decide_true, decide_false, Int.cast_ofNat_Int, Int.reduceEq, Int.reduceNe, Int.reduceLT, Int.reduceLE, $[$ts:term],*])
theorem gcd_comm' (a b : Int) : gcdI a b = gcdI b a := by unfold gcdI; rw [Nat.gcd_comm]
theorem dvd_cop {m t d : Int} (hm : 0 < m) (ht : 0 ≤ t) (h : gcdI m t = 1) (hd : m ∣ d * t) : m ∣ d := by
  have hg : Nat.gcd m.toNat t.toNat = 1 := by unfold gcdI at h; omega
  have h1 : m.toNat ∣ (d * t).natAbs := by
    have := Int.natAbs_dvd_natAbs.mpr hd
    rwa [show m.natAbs = m.toNat by omega] at this
  rw [Int.natAbs_mul, show t.natAbs = t.toNat by omega] at h1
  have h2 := Nat.Coprime.dvd_of_dvd_mul_right (show Nat.Coprime m.toNat t.toNat from hg) h1
  have : m.natAbs ∣ d.natAbs := by rwa [show m.natAbs = m.toNat by omega]
  exact Int.natAbs_dvd_natAbs.mp this
/-- all rests come up -/
theorem crt_ex (m t a y : Int) (hm : 2 ≤ m) (ht : 0 ≤ t) (h : gcdI m t = 1) (hy0 : 0 ≤ y) (hy1 : y < m) : ∃ k : Nat, (k : Int) < m ∧ (a + (k : Int) * t) % m = y := by
  have key : y ∈ (List.range m.toNat).map fun x : Nat => (a + (x : Int) * t) % m := by
    apply Classical.byContradiction
    intro hno
    have hnd : ((List.range m.toNat).map fun x : Nat => (a + (x : Int) * t) % m).Nodup := by
      rw [List.Nodup, List.pairwise_map]
      refine List.Pairwise.imp_of_mem ?_ (List.pairwise_lt_range)
      intro u v hu hv huv e
      have hu := List.mem_range.mp hu
      have hv := List.mem_range.mp hv
      have hd : m ∣ ((v : Int) - u) * t := by
        have := Int.dvd_of_emod_eq_zero (Int.emod_eq_emod_iff_emod_sub_eq_zero.mp e.symm)
        rw [show a + (v : Int) * t - (a + (u : Int) * t) = (v : Int) * t - (u : Int) * t by omega, ← Int.sub_mul] at this
        exact this
      have := Int.le_of_dvd (by omega) (dvd_cop (by omega) ht h hd)
      omega
    have hsub : ∀ z ∈ (List.range m.toNat).map (fun x : Nat => (a + (x : Int) * t) % m), z ∈ ((List.range m.toNat).map fun x : Nat => (x : Int)).erase y := by
      intro z hz
      have hz1 : z ≠ y := by rintro rfl; exact hno hz
      obtain ⟨x, hx, rfl⟩ := List.mem_map.mp hz
      rw [List.mem_erase_of_ne hz1]
      have q0 := Int.emod_nonneg (a + (x : Int) * t) (show m ≠ 0 by omega)
      have q1 := Int.emod_lt_of_pos (a + (x : Int) * t) (show 0 < m by omega)
      exact List.mem_map.mpr ⟨((a + (x : Int) * t) % m).toNat, List.mem_range.mpr (by omega), by omega⟩
    have := nodup_len _ _ hnd hsub
    have hmem : y ∈ (List.range m.toNat).map (fun x : Nat => (x : Int)) := List.mem_map.mpr ⟨y.toNat, List.mem_range.mpr (by omega), by omega⟩
    rw [List.length_erase_of_mem hmem] at this
    simp at this
    omega
  obtain ⟨x, hx, e⟩ := List.mem_map.mp key
  have hx := List.mem_range.mp hx
  exact ⟨x, by omega, e⟩
/-- by both numbers but one rest -/
theorem crt_one {m t x y : Int} (hm : 0 < m) (ht : 0 < t) (h : gcdI m t = 1) (x0 : 0 ≤ x) (x1 : x < m * t) (y0 : 0 ≤ y) (y1 : y < m * t) (h1 : x % m = y % m) (h2 : x % t = y % t) : x = y := by
  have key : ∀ a b : Int, 0 ≤ a → a ≤ b → b < m * t → a % m = b % m → a % t = b % t → a = b := by
    intro a b a0 ab b1 e1 e2
    obtain ⟨k, hk⟩ := Int.dvd_of_emod_eq_zero (eq_mod0 e2.symm)
    have hd := Int.dvd_of_emod_eq_zero (eq_mod0 e1.symm)
    rw [hk, Int.mul_comm] at hd
    obtain ⟨q, hq⟩ := dvd_cop hm (by omega) h hd
    rw [hq, ← Int.mul_assoc, Int.mul_comm t m] at hk
    rcases Int.lt_trichotomy q 0 with z | z | z
    · have : m * t * q ≤ m * t * (-1) := Int.mul_le_mul_of_nonneg_left (by omega) (Int.mul_nonneg (by omega) (by omega))
      have : 0 < m * t := Int.mul_pos hm ht
      omega
    · rw [z, Int.mul_zero] at hk; omega
    · have : m * t * 1 ≤ m * t * q := Int.mul_le_mul_of_nonneg_left (by omega) (Int.mul_nonneg (by omega) (by omega))
      omega
  rcases Int.le_total x y with z | z
  · exact key x y x0 z y1 h1 h2
  · exact (key y x y0 z x1 h1.symm h2.symm).symm
theorem both_no (l m t : Int) (fs gs : List F3) (a b : Int) (hm : 0 < m) (ht : 0 ≤ t) (ht2 : t < 900000) (h : ¬ gcdI m t = 1) : f_told_both [.p (sP l m fs), .p (sP l t gs), .p (.int a), .p (.int b)] [] = some (.exc "NoRest", []) := by
  refine fn_Wex (k := 7) ?_ rfl
  unfold b_told_both
  tbr_iter [divisor_eq, h]
  exact ⟨_, rfl⟩
theorem both_clash (l m t : Int) (fs gs : List F3) (a b : Int) (hl : 0 ≤ l) (hl2 : l ≤ 1000) (hm : 0 < m) (ht : 0 < t) (ht2 : t < 900000) (h : gcdI m t = 1) (g1 : Gd l m fs) (g2 : Gd l t gs) (f1 : fs.length ≤ 1000) (f2 : gs.length ≤ 1000) (a0 : 0 ≤ a) (a1 : a ≤ l) (hc : ¬ (Cons m fs ∧ Cons t gs)) : f_told_both [.p (sP l m fs), .p (sP l t gs), .p (.int a), .p (.int b)] [] = some (.exc "Clash", []) := by
  refine fn_Wex (k := 7) ?_ rfl
  unfold b_told_both
  by_cases h1 : Cons m fs
  · have h2 : ¬ Cons t gs := fun q => hc ⟨h1, q⟩
    obtain ⟨φ, hp⟩ := h1
    have tn := told_no l t gs a b ht hl hl2 g2 f2 h2
    rcases told_eq l m fs a b φ hm hl hl2 g1 f1 a0 a1 hp with ⟨_, e⟩ | ⟨_, e⟩
    · tbr_iter [divisor_eq, h, e, tn]
      exact ⟨_, rfl⟩
    · tbr_iter [divisor_eq, h, e, tn]
      exact ⟨_, rfl⟩
  · tbr_iter [divisor_eq, h, told_no l m fs a b hm hl hl2 g1 f1 h1]
    exact ⟨_, rfl⟩
theorem both_eq (l m t : Int) (fs gs : List F3) (a b : Int) (φ ψ : Int → Int) (hl : 0 ≤ l) (hl2 : l ≤ 1000) (hm : 2 ≤ m) (ht : 2 ≤ t) (ht2 : t < 900000) (h : gcdI m t = 1) (g1 : Gd l m fs) (g2 : Gd l t gs) (f1 : fs.length ≤ 1000) (f2 : gs.length ≤ 1000) (a0 : 0 ≤ a) (a1 : a ≤ l) (hp : Pot m fs φ) (hq : Pot t gs ψ) :
    (¬ (Conn fs a b ∧ Conn gs a b) ∧ f_told_both [.p (sP l m fs), .p (sP l t gs), .p (.int a), .p (.int b)] [] = some (.ok (.p .non), [])) ∨
    ∃ x, 0 ≤ x ∧ x < m * t ∧ x % m = (φ b - φ a) % m ∧ x % t = (ψ b - ψ a) % t ∧ (Conn fs a b ∧ Conn gs a b) ∧ f_told_both [.p (sP l m fs), .p (sP l t gs), .p (.int a), .p (.int b)] [] = some (.ok (.p (.int x)), []) := by
  rcases told_eq l m fs a b φ (by omega) hl hl2 g1 f1 a0 a1 hp with ⟨c1, e1⟩ | ⟨c1, e1⟩
  · rcases told_eq l t gs a b ψ (by omega) hl hl2 g2 f2 a0 a1 hq with ⟨c2, e2⟩ | ⟨c2, e2⟩
    · have p0 := Int.emod_nonneg (φ b - φ a) (show m ≠ 0 by omega)
      have p1 := Int.emod_lt_of_pos (φ b - φ a) (show 0 < m by omega)
      have q0 := Int.emod_nonneg (ψ b - ψ a) (show t ≠ 0 by omega)
      have q1 := Int.emod_lt_of_pos (ψ b - ψ a) (show 0 < t by omega)
      generalize hA : (φ b - φ a) % m = A at *
      generalize hB : (ψ b - ψ a) % t = B at *
      obtain ⟨k, k0, k1⟩ := crt_ex t m A B ht (by omega) (by rw [gcd_comm']; exact h) q0 q1
      -- the least one
      have hleast : ∃ k : Nat, (k : Int) < t ∧ (A + (k : Int) * m) % t = B ∧ ∀ j : Nat, j < k → (A + (j : Int) * m) % t ≠ B := by
        clear k0 k1
        obtain ⟨k, k0, k1⟩ := crt_ex t m A B ht (by omega) (by rw [gcd_comm']; exact h) q0 q1
        induction k using Nat.strongRecOn with
        | ind k ih =>
          by_cases hj : ∃ j, j < k ∧ (A + (j : Int) * m) % t = B
          · obtain ⟨j, j1, j2⟩ := hj
            exact ih j j1 (by omega) j2
          · exact ⟨k, k0, k1, fun j j1 j2 => hj ⟨j, j1, j2⟩⟩
      obtain ⟨k, k0, k1, k2⟩ := hleast
      have hkm : (k : Int) * m ≤ (t - 1) * m := Int.mul_le_mul_of_nonneg_right (by omega) (by omega)
      have hkm0 : 0 ≤ (k : Int) * m := Int.mul_nonneg (by omega) (by omega)
      rw [Int.sub_mul, Int.one_mul, Int.mul_comm t m] at hkm
      refine .inr ⟨A + (k : Int) * m, by omega, by omega, ?_, k1, ⟨c1, c2⟩, fn_W (k := 7) ?_ rfl⟩
      · rw [Int.add_mul_emod_self_right, Int.emod_eq_of_lt p0 p1]
      · unfold b_told_both
        tbr_iter [divisor_eq, h, e1, e2]
        refine W_while (σ := Nat) 1000000 (fun j => [some (.p (sP l m fs)), some (.p (sP l t gs)), some (.p (.int a)), some (.p (.int b)), some (.p (.int A)), some (.p (.int B)), some (.p (.int (A + (j : Int) * m)))]) (fun _ => []) (fun j => j ≤ k) (fun j => k - j) 0 (by omega) (by simp) rfl (by omega) ?_
        intro j hj
        tbr_iter []
        rw [wWh_c]
        refine ⟨fun hh => ?_, fun hh => ?_⟩
        · have hh : ¬ (A + (j : Int) * m) % t = B := by simpa using hh
          have hjk : j ≠ k := by rintro rfl; exact hh k1
          tbr_iter []
          refine ⟨j + 1, ?_, by omega, by omega⟩
          rw [show ((j + 1 : Nat) : Int) * m = (j : Int) * m + m by rw [Int.natCast_add, Int.add_mul]; simp, Int.add_assoc]
        · have hh : (A + (j : Int) * m) % t = B := by simpa using hh
          have hjk : j = k := by
            rcases Nat.lt_or_ge j k with z | z
            · exact absurd hh (k2 j z)
            · omega
          subst hjk
          tbr_iter []
    · refine .inl ⟨fun q => c2 q.2, fn_W (k := 7) ?_ rfl⟩
      unfold b_told_both
      tbr_iter [divisor_eq, h, e1, e2]
  · refine .inl ⟨fun q => c1 q.1, fn_W (k := 7) ?_ rfl⟩
    unfold b_told_both
    rcases told_eq l t gs a b ψ (by omega) hl hl2 g2 f2 a0 a1 hq with ⟨c2, e2⟩ | ⟨c2, e2⟩
    · tbr_iter [divisor_eq, h, e1, e2]
    · tbr_iter [divisor_eq, h, e1, e2]
end Z

end
section
namespace Z
open PySem L2
local macro_rules | `(tactic| tbr_iter [$ts,*]) => `(tactic| simp (disch := first | assumption | omega | decide | (simp only [List.length_map, List.length_cons, List.length_nil, List.length_append, List.length_range, List.length_take, List.length_drop]; omega)) only [ev_var0s, ev_varS, ev_c, dr_p, dr_0, dr_S, pu_pl, pu_pd, pu_pdT, retO_s, ev_mv, fMv_ref, fMvx_s, ev_p1, fP1_ok, fP1d_s, ev_p2, fP2a_ok, fP2a_exc, fP2b_ok, fP2b_exc, fP2c_s, evs_nil, evs_cons, fEa_ok, fEa_exc, fEb_ok, fEb_exc, drs_nil, drs_cons, fDc_s, ev_pn, fPn_ok, fPn_exc, fPd_s, purs_nil, purs_cons, ev_tup, fTup_ok, fTup_exc, fTd_s, ev_lst, fLst_ok, fLst_exc, fLd_s, ev_newL, fNewL_ok, fNewL_exc, fNd_s, ev_newD, ev_and, fAnd_t, fAnd_f, fAnd_exc, ev_or, fOr_t, fOr_f, fOr_exc, ev_not, fNot_b, fNot_exc, ev_if, fIf_t, fIf_f, fIf_exc, ev_tB, ftB_b, ftB_exc, ev_tTr, ftT_ok, ftT_exc, ftTd_s, tr_non, tr_bl, tr_int, tr_tup, tr_lst, tr_0, tr_S, otr_pl, ev_tand, ftAnd_t, ftAnd_f, ftAnd_exc, ev_tor, ftOr_t, ftOr_f, ftOr_exc, ev_tnot, ftNot_b, ftNot_exc, ev_tyes, ev_sl, fSa_ok, fSa_exc, fSb_ok, fSc_ok, fSd_s, evO_n, evO_s, fO_i, ev_ch, fCa_ok, fCb_ok, fCc_t, fCc_f, ev_call, fCall_ok, fCall_exc, fRp_ok, fRp_exc, cv_1, cv_2, cv_3, cv_4, cv_5, fRt_ok, ev_lc, it_seq, fSeq_t, fSeq_l, it_en, fEn_t, fEn_l, it_r1, fR1_ok, it_r2, fR2a_ok, fR2b_ok, it_z, fZa_ok, fZb_t, fZb_l, ev_me, fMa_ok, fMb_t, fMc_ok, fMc_exc, la_0, la_r0, la_S, fPush_s, app_S, ext_S, W_seq, W_pass, Wn_cons, Wn_nil, W_set, wSet_ok, wSet_exc, W_expr, wEx_ok, wEx_exc, W_ret, wRet_ok, wRet_exc, W_if, wIf_t, wIf_f, wIf_exc, W_brk, W_cont, W_raise, W_asg, wAsg_ok, wAsg_exc, wA_s, asg_nm, asg_tp, asg_tpl, asgs_nil, asgs_cons, fAs_s, W_par2, wPa_ok, wPa_exc, wPb_ok, wPb_exc, clr_nil, clr_cons, W_for, wFor_ok, wFor_exc, IQ_nx, IQ_ct, IQ_bk, IQ_rt, IQ_ex, wB_s, lcE1_s, lcE2_t, lcE2_f, lcE3_s, fLm_s, fLt_s, fLc_ok, o_mod, o_fdiv, o_mulR, o_mulL, o_addT, o_addL, o_sumT, o_sumL, o_app, o_ext, cut_map, cut_0j, cut_i, atI_map, atI_i, all_b, any_b, is_t, is_tl, is_ti, is_tb, is_tn, is_ts, is_i, is_ib, is_it, is_il, is_in, is_is, is_b, is_bi, is_bt, is_bl, is_bn, is_bs, tk_map, dp_map, app_map, neP_nn, neP_in, neP_ni, eqP_nn, eqP_in, eqP_ni, neP_bb, eqP_bb, ssm_fold, in_bl, ev_ixo, fIxa_ok, fIxb_bl, fIxc_s, ev_notT, fNotT_ok, fNotTd_s, W_par3, wP3a_ok, wP3b_ok, wP3c_ok, ev_rg1, fG1_ok, ev_rg2, fG2a_ok, fG2b_ok, ev_lstRg, ev_tupRg, ev_newRg, fLR_ok, fTR_ok, fNR_ok, ev_newOf, fNO_ok, fNOd_t, fNOd_l, setS_0, setS_S, W_sub, wS1_ok, wS2_ok, wS3_ok, wS4_s, TQ_nx, TQ_rt, TQ_ex, wTr_hit, wTr_miss, wTr_nil, rv_t, rv_l, rv_map, notIn_key, in_key, SQ_nx, SQ_rt, SQ_bk, SQ_ct, SQ_ex, addP_i, subP_i, negP_i, ltP_i, leP_i, gtP_i, geP_i, isP_n, isP_i, isP_b, isP_t, isP_l, isP_s, isNotP_n, isNotP_i, isNotP_b, isNotP_t, isNotP_l, isNotP_s, isP_bb, isNotP_bb, idxP_t, idxP_l, atI_0, atI_1, atI_2, sliceP_t, sliceP_l, lenP_t, lenP_l, lenP_f, tupleP_t, tupleP_l, listP_t, listP_l, minP_i, maxP_i, intP_i, intP_b, eqP_int, neP_int, List.set_cons_zero, List.set_cons_succ, List.length_cons, List.length_nil, List.map_cons, List.map_nil, List.length_map, List.cons_append, List.nil_append, List.append_nil, Option.map_some, Int.toNat_natCast, Int.reduceToNat, List.getElem?_map, List.getElem?_cons_zero, List.getElem?_cons_succ, List.replicate_zero, List.replicate_succ, Nat.sub_self, Nat.reduceSub, Nat.reduceAdd, Bool.not_true, Bool.not_false, List.take_zero, List.take_succ_cons, and_true, true_and, implies_true, decide_true, decide_false, Int.cast_ofNat_Int, Int.reduceEq, Int.reduceNe, Int.reduceLT, Int.reduceLE, $[$ts:term],*])
theorem plns_fs : ∀ fs : List F3, plns 5 (fs.map fP) = true
  | [] => rfl
  | f :: fs => by rw [List.map_cons, plns, plns_fs fs]; rfl
theorem pln_sP (l m : Int) (fs : List F3) (h : fs.length ≤ 1000000) : pln 7 (sP l m fs) = true := by
  have h2 := plns_fs fs
  simp only [pln, plns, List.length_map, List.length_cons, List.length_nil, h2, Bool.and_true, Bool.true_and, Bool.and_eq_true, decide_eq_true_eq]
  omega
theorem same_sP (l m : Int) (fs : List F3) (h : fs.length ≤ 1000000) : f_l_same 8 [.p (sP l m fs), .p (sP l m fs)] [] = some (.ok (.p (.bl true)), []) := same_refl 7 _ (pln_sP l m fs h)
theorem same_str (x : Str) (h : x.cps.all (· < 0x110000) = true) : f_l_same 8 [.p (.str x), .p (.str x)] [] = some (.ok (.p (.bl true)), []) := same_refl 7 _ h
theorem lay_sP (l m : Int) (fs : List F3) : lay 16 (sP l m fs) = true := by
  have h := lays_fs fs
  have : ∀ fs : List F3, lays 14 (fs.map fP) = true := fun fs => by
    induction fs with
    | nil => rfl
    | cons f fs ih => rw [List.map_cons, lays, ih]; rfl
  simp only [lay, lays, this, Bool.and_true]
theorem gcdI_dvd (a b : Int) (ha : 0 ≤ a) (hb : 0 ≤ b) : gcdI a b ∣ a ∧ gcdI a b ∣ b := by
  unfold gcdI
  have h1 := Nat.gcd_dvd_left a.toNat b.toNat
  have h2 := Nat.gcd_dvd_right a.toNat b.toNat
  have e1 := Int.natCast_dvd_natCast.mpr h1
  have e2 := Int.natCast_dvd_natCast.mpr h2
  rw [Int.toNat_of_nonneg ha] at e1
  rw [Int.toNat_of_nonneg hb] at e2
  exact ⟨e1, e2⟩
theorem dvd_gcdI (a b d : Int) (hd : 0 ≤ d) (ha : 0 ≤ a) (hb : 0 ≤ b) (h1 : d ∣ a) (h2 : d ∣ b) : d ∣ gcdI a b := by
  unfold gcdI
  obtain ⟨n, rfl⟩ := Int.eq_ofNat_of_zero_le hd
  rw [← Int.toNat_of_nonneg ha] at h1
  rw [← Int.toNat_of_nonneg hb] at h2
  exact Int.natCast_dvd_natCast.mpr (Nat.dvd_gcd (Int.natCast_dvd_natCast.mp h1) (Int.natCast_dvd_natCast.mp h2))
theorem gcdI_nn (a b : Int) : 0 ≤ gcdI a b := by unfold gcdI; omega
theorem modmul (a b m : Int) : a % m * b % m = a * b % m := by rw [Int.mul_emod, Int.emod_emod_of_dvd _ (Int.dvd_refl m), ← Int.mul_emod]
theorem gcd_no (m t : Int) (n : Nat) (hm : 0 < m) (hm2 : m ≤ (n : Int) + 1) (ht : 0 ≤ t) : ((List.range n).filter fun x : Nat => decide (m % (2 + (x : Int)) = 0) && decide (t % (2 + (x : Int)) = 0)).isEmpty = decide (gcdI m t = 1) := by
  rw [Bool.eq_iff_iff, List.isEmpty_iff, List.filter_eq_nil_iff, decide_eq_true_eq]
  constructor
  · intro h
    have g0 := gcdI_nn m t
    obtain ⟨d1, d2⟩ := gcdI_dvd m t (by omega) ht
    have gle := Int.le_of_dvd (by omega) d1
    have gpos : gcdI m t ≠ 0 := by
      intro z
      rw [z] at d1
      have := Int.zero_dvd.mp d1
      omega
    rcases Int.lt_or_le (gcdI m t) 2 with z | z
    · omega
    · exfalso
      refine h (gcdI m t - 2).toNat (List.mem_range.mpr (by omega)) ?_
      have e : 2 + (((gcdI m t - 2).toNat : Nat) : Int) = gcdI m t := by omega
      rw [e, Int.emod_eq_zero_of_dvd d1, Int.emod_eq_zero_of_dvd d2]
      rfl
  · intro h x hx hc
    simp only [Bool.and_eq_true, decide_eq_true_eq] at hc
    have := dvd_gcdI m t (2 + (x : Int)) (by omega) (by omega) ht (Int.dvd_of_emod_eq_zero hc.1) (Int.dvd_of_emod_eq_zero hc.2)
    rw [h] at this
    have := Int.le_of_dvd (by omega) this
    omega
theorem pln_int (i : Int) : pln 7 (.int i) = true := rfl
theorem same_int (i : Int) : f_l_same 8 [.p (.int i), .p (.int i)] [] = some (.ok (.p (.bl true)), []) := same_refl 7 _ rfl
theorem same_non : f_l_same 8 [.p .non, .p .non] [] = some (.ok (.p (.bl true)), []) := same_refl 7 _ rfl
end Z

end
section
namespace Z
open PySem PySem.Spec PyProof.Rows L2
/-! ### comprehensions over a list of things -/
def rlAt (S : List O) (k : Nat) (ks : List Nat) : Bool := match S[k]? with
  | some (.rl js) => decide (js = ks)
  | _ => false
theorem rlAt_some {S : List O} {k : Nat} {ks : List Nat} (h : rlAt S k ks = true) : S[k]? = some (.rl ks) := by
  unfold rlAt at h
  split at h
  · rename_i js q; rw [q, of_decide_eq_true h]
  · cases h
def lcRf (i : Nat) (c : TM) (env : Env) (k : Nat) (ks : List Nat) : List Nat → List Nat → List O → Out Val
  | [], acc, S => if rlAt S k ks = true then some (.ok (.ref S.length), S ++ [.rl acc]) else none
  | j :: js, acc, S => if rlAt S k ks = true then match c (env.set i (some (.ref j))) S with
      | some (.ok true, S1) => if acc.length < sizeLine then lcRf i c env k ks js (acc ++ [j]) S1 else none
      | some (.ok false, S1) => lcRf i c env k ks js acc S1
      | _ => none
    else none
/-- [x for x in things if c] -/
def mLcRf (own : List Nat) (i : Nat) (mo : EM) (c : TM) : EM := fun env S => bnd (mo env S) fun v S1 => match v with
  | .ref k => match S1[k]? with
    | some (.rl ks) => if i < env.length then lcRf i c (clr own env) k ks ks [] S1 else none
    | _ => none
  | .p _ => none
def lcRp (i : Nat) (e : EM) (env : Env) (k : Nat) (ks : List Nat) : List Nat → List P → List O → Out Val
  | [], acc, S => if rlAt S k ks = true then some (.ok (.p (.lst acc)), S) else none
  | j :: js, acc, S => if rlAt S k ks = true then match e (env.set i (some (.ref j))) S with
      | some (.ok (.p y), S1) => if acc.length < sizeLine then lcRp i e env k ks js (acc ++ [y]) S1 else none
      | _ => none
    else none
/-- [e for x in things] -/
def mLcRp (own : List Nat) (i : Nat) (mo e : EM) : EM := fun env S => bnd (mo env S) fun v S1 => match v with
  | .ref k => match S1[k]? with
    | some (.rl ks) => if i < env.length then lcRp i e (clr own env) k ks ks [] S1 else none
    | _ => none
  | .p _ => none
/-- things[n] -/
def mIdxR (o i : EM) : EM := fun env S => bnd (o env S) fun v S1 => bnd (i env S1) fun u S2 => match v, u with
  | .ref k, .p (.int n) => match S2[k]? with
    | some (.rl ks) => (atI ks n).bind fun j => some (.ok (.ref j), S2)
    | _ => none
  | _, _ => none
section
variable {K : PySem.W.Frag} {H H1 H' : Hp} {F : Dom} {ρ ρ1 ρ' : Rho} {S S' : List O}
/-- a thing that stays where it is -/
theorem same_at {k : Nat} {a : Addr} {o : O} (x : Xt H1 ρ1 H' ρ') (r : Rl K H' F ρ' S') (h : ρ1[k]? = some (some a)) (e : S'[k]? = some o) (ng : o ≠ .gone) : ρ'[k]? = some (some a) := by
  obtain ⟨a2, h2⟩ := r.go k o e ng
  have hk := (List.getElem?_eq_some_iff.mp h).1
  rcases x.old k a2 h2 with z | ⟨z, _⟩
  · rw [h] at z; cases z; exact h2
  · omega
theorem fresh_in {D : Addr} {ws : List V} {acc : List Nat} (r : Rl K H' (fun b => F b ∨ b = D) ρ' S') (nD : some D ∉ ρ') (nF : ¬ F D) (hD : H' D = some (.lst ws)) (ra : RVs K H' (fun b => F b ∨ b = D) ρ' (acc.map Val.ref) ws) : Rl K H' F (ρ' ++ [some D]) (S' ++ [.rl acc]) := by
  have hB : ∀ b, Bd F (ρ' ++ [some D]) b ↔ Bd (fun b => F b ∨ b = D) ρ' b := fun b => by
    constructor
    · rintro (q | q)
      · exact .inl (.inl q)
      · rcases List.mem_append.mp q with z | z
        · exact .inr z
        · exact .inl (.inr (by simpa using z))
    · rintro ((q | rfl) | q)
      · exact .inl q
      · exact .inr (by simp)
      · exact .inr (by simp [q])
  have last : ∀ (i : Nat) (a : Addr), (ρ' ++ [some D])[i]? = some (some a) → ρ'[i]? = some (some a) ∨ (i = ρ'.length ∧ a = D) := fun i a e => by
    by_cases hi : i < ρ'.length
    · rw [List.getElem?_append_left hi] at e; exact .inl e
    · rw [List.getElem?_append_right (by omega)] at e
      cases hk : i - ρ'.length with
      | zero => rw [hk] at e; simp at e; exact .inr ⟨by omega, e.symm⟩
      | succ n => rw [hk] at e; simp at e
  refine ⟨by simp [r.len], fun i j a e1 e2 => ?_, fun b q => r.al b ((hB b).mp q), fun i a e q => ?_, fun i a o e1 e2 => ?_, fun i o e ng => ?_⟩
  · rcases last i a e1 with z1 | ⟨z1, rfl⟩ <;> rcases last j a e2 with z2 | ⟨z2, z3⟩
    · exact r.nd i j a z1 z2
    · subst z3; exact (nD (mem_rho.mpr ⟨i, z1⟩)).elim
    · exact (nD (mem_rho.mpr ⟨j, z2⟩)).elim
    · omega
  · rcases last i a e with z | ⟨_, rfl⟩
    · exact r.ds i a z (.inl q)
    · exact nF q
  · rcases last i a e1 with z | ⟨z, rfl⟩
    · have hi : i < S'.length := by rw [← r.len]; exact (List.getElem?_eq_some_iff.mp z).1
      rw [List.getElem?_append_left hi] at e2
      have ob := r.ob i a o z e2
      cases o with
      | gone => exact ob
      | pl xs => obtain ⟨vs, h1, h2⟩ := ob; exact ⟨vs, h1, h2.mono (fun _ _ e _ => e) fun b q => .inl ((hB b).mp q)⟩
      | pd xs => obtain ⟨vs, h1, h2⟩ := ob; exact ⟨vs, h1, h2.mono (fun _ _ e _ => e) fun b q => .inl ((hB b).mp q)⟩
      | pdT xs => obtain ⟨vs, h1, h2⟩ := ob; exact ⟨vs, h1, h2.mono (fun _ _ e _ => e) fun b q => .inl ((hB b).mp q)⟩
      | rl ks =>
        obtain ⟨vs, h1, h2⟩ := ob
        refine ⟨vs, h1, ?_⟩
        clear h1 e2
        induction ks generalizing vs with
        | nil => cases h2; exact .nil
        | cons k ks ih => cases h2 with
          | cons p t =>
            refine .cons ⟨by rw [List.length_append]; have := p.1; omega, fun a ha => ?_⟩ (ih _ t)
            rw [List.getElem?_append_left p.1] at ha
            exact p.2 a ha
    · have hi : i = S'.length := by rw [← r.len]; exact z
      subst hi
      rw [List.getElem?_append_right (Nat.le_refl _), Nat.sub_self] at e2
      cases e2
      refine ⟨ws, hD, ?_⟩
      clear hD
      induction acc generalizing ws with
      | nil => cases ra; exact .nil
      | cons k ks ih => cases ra with
        | cons p t =>
          refine .cons ⟨by rw [List.length_append]; have := p.1; omega, fun a ha => ?_⟩ (ih t)
          rw [List.getElem?_append_left p.1] at ha
          exact p.2 a ha
  · by_cases hi : i < S'.length
    · rw [List.getElem?_append_left hi] at e
      obtain ⟨a, ha⟩ := r.go i o e ng
      exact ⟨a, by rw [List.getElem?_append_left (by rw [r.len]; exact hi)]; exact ha⟩
    · rw [List.getElem?_append_right (by omega)] at e
      cases hk : i - S'.length with
      | zero => exact ⟨D, by rw [List.getElem?_append_right (by rw [r.len]; omega), r.len, hk]; rfl⟩
      | succ n => rw [hk] at e; simp at e
theorem fresh_xt {D : Addr} (x : Xt H ρ H' ρ') (nD : H D = none) : Xt H ρ H' (ρ' ++ [some D]) := by
  refine ⟨x.keep, x.stay, by rw [List.length_append]; have := x.len; omega, fun i a e => ?_⟩
  by_cases hi : i < ρ'.length
  · rw [List.getElem?_append_left hi] at e; exact x.old i a e
  · rw [List.getElem?_append_right (by omega)] at e
    cases hk : i - ρ'.length with
    | zero => rw [hk] at e; simp at e; exact .inr ⟨by have := x.len; omega, by rw [← e]; exact nD⟩
    | succ n => rw [hk] at e; simp at e
/-- room for what is collected -/
theorem room_D {D : Addr} (r1 : Rl K H1 F ρ1 S) (nD : H1 D = none) : Rl K (upd H1 D (.lst [])) (fun b => F b ∨ b = D) ρ1 S := by
  have nBD : ¬ Bd F ρ1 D := fun q => r1.al D q nD
  have s := Same.upd (o := .lst []) nD
  refine ⟨r1.len, r1.nd, fun b q => ?_, fun i a ha q => ?_, fun i a o h1 h2 => ?_, r1.go⟩
  · rcases q with (q | rfl) | q
    · exact (r1.grow s).al b (.inl q)
    · rw [upd_same]; simp
    · exact (r1.grow s).al b (.inr q)
  · rcases q with q | rfl
    · exact r1.ds i a ha q
    · exact nBD (.inr (mem_rho.mpr ⟨i, ha⟩))
  · refine (r1.ob i a o h1 h2).chg (fun b u e _ => s b u e) (fun b q => ?_) fun u e => s a u e
    rcases q with (q | rfl) | q
    · exact .inl (.inl q)
    · exact .inr nD
    · exact .inl (.inr q)
end
section
variable {W : WX}
theorem RVs.to {K : PySem.W.Frag} {H H' : Hp} {F F' : Dom} {ρ ρ' : Rho} (x : Xt H ρ H' ρ') : ∀ {ks : List Nat} {vs : List V}, RVs K H F ρ (ks.map Val.ref) vs → RVs K H' F' ρ' (ks.map Val.ref) vs
  | [], _, .nil => .nil
  | k :: ks, _, .cons h t => .cons (RV.xt (F := F') x h) (RVs.to x t)
theorem RVs.free {K : PySem.W.Frag} {H H' : Hp} {F F' : Dom} {ρ : Rho} : ∀ {ks : List Nat} {vs : List V}, RVs K H F ρ (ks.map Val.ref) vs → RVs K H' F' ρ (ks.map Val.ref) vs
  | [], _, .nil => .nil
  | k :: ks, _, .cons h t => .cons ⟨h.1, h.2⟩ (RVs.free t)
theorem wipe_set {σ : L2.St} {vs : List Nat} {i : Nat} {v : V} (hi : i ∈ vs) : L2.wipe ((L2.wipe σ vs).set i (some v)) vs = L2.wipe σ vs := by
  apply wipe_agree
  · rw [List.length_set]
  · intro j hj
    have : i ≠ j := fun z => hj (by rw [← z]; exact hi)
    rw [List.getElem?_set_ne this]
theorem lcRf_read {K : PySem.W.Frag} {mg : Str → Option Value} {mo : EM} {i : Nat} {c : TM} {vs : List Nat} {σ : L2.St} {H : Hp} {Q : VK} (hi : i ∈ vs) (h : TEx K mg W (mLcRf vs i mo c) σ H Q) :
    tLc (iList K (TEx K mg W mo)) (gName i) (TTx K mg W0 c) (TEx K mg W0 (mVar i)) vs σ H Q := by
  obtain ⟨F, ρ, env, S, r, e, h⟩ := h
  unfold mLcRf at h
  refine ⟨F, ρ, env, S, r, e, h.bnd.imp (fun d S1 h1 v H1 ρ1 x1 r1 v1 => ?_) fun _ _ q => q⟩
  cases d with
  | p y => exact h1.elim
  | ref k =>
    dsimp only at h1
    cases hk : S1[k]? with
    | none => rw [hk] at h1; exact h1.elim
    | some o =>
      rw [hk] at h1
      cases o with
      | gone => exact h1.elim
      | pl xs => exact h1.elim
      | pd xs => exact h1.elim
      | pdT xs => exact h1.elim
      | rl ks =>
        dsimp only at h1
        split at h1
        case isFalse => exact h1.elim
        rename_i hil0
        have hil : i < (clr vs env).length := by rw [clr_length]; exact hil0
        obtain ⟨a, ha, rfl, vs0, g1, g2⟩ := thing_lst r1 v1 hk (by simp)
        refine ⟨a, rfl, ⟨vs0, SqL.of g1⟩, fun D nD => ?_⟩
        have nBD : ¬ Bd F ρ1 D := fun q => r1.al D q nD
        have hbF : ∀ {H2 : Hp} {ρ2 : Rho}, Xt H1 ρ1 H2 ρ2 → ∀ b, Bd (fun b => F b ∨ b = D) ρ2 b → Bd F ρ1 b ∨ H1 b = none := fun x b q => by
          rcases q with (q | rfl) | q
          · exact .inl (.inl q)
          · exact .inr nD
          · exact x.hb (F := F) b (.inr q)
        refine ⟨fun n m H' => m = ks.length - n ∧ n ≤ ks.length ∧ ∃ ρ' S' acc ws, Xt H1 ρ1 H' ρ' ∧ some D ∉ ρ' ∧ Rl K H' (fun b => F b ∨ b = D) ρ' S' ∧ H' D = some (.lst ws) ∧ RVs K H' (fun b => F b ∨ b = D) ρ' (acc.map Val.ref) ws ∧
          Ans (lcRf i c (clr vs env) k ks (ks.drop n) acc S') (KV1 K H F ρ Q) (KX1 K mg H F ρ σ W), ⟨_, rfl, Nat.zero_le _, ρ1, S1, [], [], Xt.grow (Same.upd nD), fun q => nBD (.inr q), room_D r1 nD, upd_same, .nil, h1⟩, ?_⟩
        rintro n m H' ⟨rfl, hn, ρ', S', acc, ws, x', nD', r', hD', ra', a'⟩
        have here : rlAt S' k ks = true → ∃ vs', H' a = some (.lst vs') ∧ RVs K H' (fun b => F b ∨ b = D) ρ' (ks.map Val.ref) vs' := fun hr => by
          have q := rlAt_some hr
          exact r'.ob k a _ (same_at x' r' ha q (by simp)) q
        by_cases hlt : n < ks.length
        · rw [List.drop_eq_getElem_cons hlt] at a'
          unfold lcRf at a'
          split at a'
          · rename_i hr
            obtain ⟨vs', q1, q2⟩ := here hr
            obtain ⟨v2, q3, q4⟩ := q2.get' (i := n) (x := .ref ks[n]) (by rw [List.getElem?_map, List.getElem?_eq_getElem hlt]; rfl)
            refine .inr ⟨⟨vs', v2, SqL.of q1, q3⟩, fun H2 => n + 1 ≤ ks.length ∧ ∃ ρ' S' acc ws, Xt H1 ρ1 H2 ρ' ∧ some D ∉ ρ' ∧ Rl K H2 (fun b => F b ∨ b = D) ρ' S' ∧ H2 D = some (.lst ws) ∧ RVs K H2 (fun b => F b ∨ b = D) ρ' (acc.map Val.ref) ws ∧
              Ans (lcRf i c (clr vs env) k ks (ks.drop (n + 1)) acc S') (KV1 K H F ρ Q) (KX1 K mg H F ρ σ W), fun H2 q => ⟨ks.length - (n + 1), by omega, rfl, q⟩, fun x H2 y => ?_⟩
            obtain ⟨rfl, y⟩ := y
            have y := y vs' (SqL.of q1)
            rw [q3] at y
            cases y
            refine ⟨wipe_set hi, fun b => F b ∨ b = D, ρ', (clr vs env).set i (some (.ref ks[n])), S', r', (((e.xt x1).wipe).to x' (hbF x')).set q4, ?_⟩
            match q : c ((clr vs env).set i (some (.ref ks[n]))) S', a' with
            | some (.ok false, S3), a' =>
              intro H3 ρ3 x3 r3
              rw [if_neg Bool.false_ne_true]
              exact ⟨hlt, ρ3, S3, acc, ws, x'.trans x3, x3.out hD' nD', r3, x3.keep D _ hD' nD', ra'.to x3, a'⟩
            | some (.ok true, S3), a' =>
              intro H3 ρ3 x3 r3
              rw [if_pos rfl]
              have hD3 := x3.keep D _ hD' nD'
              have nD3 := x3.out hD' nD'
              refine ⟨fun b => F b ∨ b = D, ρ3, (clr vs env).set i (some (.ref ks[n])), S3, r3, ((((e.xt x1).wipe).to x' (hbF x')).set q4).xt x3, ?_⟩
              dsimp only at a'
              split at a'
              · rename_i hsz
                have hv : mVar i ((clr vs env).set i (some (.ref ks[n]))) S3 = some (.ok (.ref ks[n]), S3) := by
                  simp only [mVar, List.getElem?_set_self hil]
                rw [hv]
                intro v4 H4 ρ4 x4 r4 v4r
                have hD4 := x4.keep D _ hD3 nD3
                have nD4 := x4.out hD3 nD3
                have x14 := (x'.trans x3).trans x4
                have ra4 := (ra'.to x3 (F' := fun b => F b ∨ b = D)).to x4 (F' := fun b => F b ∨ b = D)
                have hlw : acc.length = ws.length := by have := ra'.length; simpa using this
                refine ⟨ws, hD4, by rw [← hlw]; exact hsz, hlt, ρ4, S3, acc ++ [ks[n]], ws ++ [v4], ?_, nD4, ?_, upd_same, ?_, a'⟩
                · refine ⟨fun b u eb nb => ?_, fun b nb => ?_, x14.len, x14.old⟩
                  · rw [upd_ne (ne_of_none eb nD)]; exact x14.keep b u eb nb
                  · by_cases z : b = D
                    · rw [z, upd_same]; simp
                    · rw [upd_ne z]; exact x14.stay b nb
                · refine ⟨r4.len, r4.nd, fun b qb => ?_, r4.ds, fun j a o h1 h2 => ?_, r4.go⟩
                  · by_cases z : b = D
                    · rw [z, upd_same]; simp
                    · rw [upd_ne z]; exact r4.al b qb
                  · have na : a ≠ D := fun z => r4.ds j a h1 (.inr z)
                    refine (r4.ob j a o h1 h2).chg (fun b u eb nb => ?_) (fun b qb => .inl qb) fun u ea => ?_
                    · rw [upd_ne (fun z => nb (.inl (.inr z)))]; exact eb
                    · rw [upd_ne na]; exact ea
                · rw [List.map_append]
                  exact (ra4.free).append (.cons v4r .nil)
              · exact a'.elim
          · exact a'.elim
        · have hd : ks.drop n = [] := List.drop_eq_nil_of_le (Nat.le_of_not_lt hlt)
          rw [hd] at a'
          unfold lcRf at a'
          split at a'
          · rename_i hr
            obtain ⟨vs', q1, q2⟩ := here hr
            have hlv : ks.length = vs'.length := by have := q2.length; simpa using this
            refine .inl ⟨⟨vs', SqL.of q1, by omega⟩, ?_⟩
            have nD0 : H D = none := by
              cases q : H D with
              | none => rfl
              | some o => exact absurd nD (x1.stay D (by rw [q]; simp))
            refine (show KV1 K H F ρ Q (.ref S'.length) (S' ++ [.rl acc]) from a') (.ref D) H' (ρ' ++ [some D]) (fresh_xt (x1.trans x') nD0) (fresh_in r' nD' (fun q => nBD (.inl q)) hD' ra') ⟨by rw [List.length_append, r'.len]; simp, fun b hb => ?_⟩
            rw [← r'.len, List.getElem?_append_right (Nat.le_refl _), Nat.sub_self] at hb
            cases hb; rfl
          · exact a'.elim
theorem lcRp_read {K : PySem.W.Frag} {mg : Str → Option Value} {mo : EM} {i : Nat} {em : EM} {vs : List Nat} {σ : L2.St} {H : Hp} {Q : VK} (hi : i ∈ vs) (h : TEx K mg W (mLcRp vs i mo em) σ H Q) :
    tLc (iList K (TEx K mg W mo)) (gName i) (TTx K mg W0 tYesM) (TEx K mg W0 em) vs σ H Q := by
  obtain ⟨F, ρ, env, S, r, e, h⟩ := h
  unfold mLcRp at h
  refine ⟨F, ρ, env, S, r, e, h.bnd.imp (fun d S1 h1 v H1 ρ1 x1 r1 v1 => ?_) fun _ _ q => q⟩
  cases d with
  | p y => exact h1.elim
  | ref k =>
    dsimp only at h1
    cases hk : S1[k]? with
    | none => rw [hk] at h1; exact h1.elim
    | some o =>
      rw [hk] at h1
      cases o with
      | gone => exact h1.elim
      | pl xs => exact h1.elim
      | pd xs => exact h1.elim
      | pdT xs => exact h1.elim
      | rl ks =>
        dsimp only at h1
        split at h1
        case isFalse => exact h1.elim
        rename_i hil0
        have hil : i < (clr vs env).length := by rw [clr_length]; exact hil0
        obtain ⟨a, ha, rfl, vs0, g1, g2⟩ := thing_lst r1 v1 hk (by simp)
        refine ⟨a, rfl, ⟨vs0, SqL.of g1⟩, fun D nD => ?_⟩
        have nBD : ¬ Bd F ρ1 D := fun q => r1.al D q nD
        have hbF : ∀ {H2 : Hp} {ρ2 : Rho}, Xt H1 ρ1 H2 ρ2 → ∀ b, Bd (fun b => F b ∨ b = D) ρ2 b → Bd F ρ1 b ∨ H1 b = none := fun x b q => by
          rcases q with (q | rfl) | q
          · exact .inl (.inl q)
          · exact .inr nD
          · exact x.hb (F := F) b (.inr q)
        refine ⟨fun n m H' => m = ks.length - n ∧ n ≤ ks.length ∧ ∃ ρ' S' acc ws, Xt H1 ρ1 H' ρ' ∧ some D ∉ ρ' ∧ Rl K H' (fun b => F b ∨ b = D) ρ' S' ∧ H' D = some (.lst ws) ∧ RepL K H' (Bd (fun b => F b ∨ b = D) ρ') acc ws ∧
          Ans (lcRp i em (clr vs env) k ks (ks.drop n) acc S') (KV1 K H F ρ Q) (KX1 K mg H F ρ σ W), ⟨_, rfl, Nat.zero_le _, ρ1, S1, [], [], Xt.grow (Same.upd nD), fun q => nBD (.inr q), room_D r1 nD, upd_same, .nil, h1⟩, ?_⟩
        rintro n m H' ⟨rfl, hn, ρ', S', acc, ws, x', nD', r', hD', ra', a'⟩
        have here : rlAt S' k ks = true → ∃ vs', H' a = some (.lst vs') ∧ RVs K H' (fun b => F b ∨ b = D) ρ' (ks.map Val.ref) vs' := fun hr => by
          have q := rlAt_some hr
          exact r'.ob k a _ (same_at x' r' ha q (by simp)) q
        by_cases hlt : n < ks.length
        · rw [List.drop_eq_getElem_cons hlt] at a'
          unfold lcRp at a'
          split at a'
          · rename_i hr
            obtain ⟨vs', q1, q2⟩ := here hr
            obtain ⟨v2, q3, q4⟩ := q2.get' (i := n) (x := .ref ks[n]) (by rw [List.getElem?_map, List.getElem?_eq_getElem hlt]; rfl)
            refine .inr ⟨⟨vs', v2, SqL.of q1, q3⟩, fun H2 => n + 1 ≤ ks.length ∧ ∃ ρ' S' acc ws, Xt H1 ρ1 H2 ρ' ∧ some D ∉ ρ' ∧ Rl K H2 (fun b => F b ∨ b = D) ρ' S' ∧ H2 D = some (.lst ws) ∧ RepL K H2 (Bd (fun b => F b ∨ b = D) ρ') acc ws ∧
              Ans (lcRp i em (clr vs env) k ks (ks.drop (n + 1)) acc S') (KV1 K H F ρ Q) (KX1 K mg H F ρ σ W), fun H2 q => ⟨ks.length - (n + 1), by omega, rfl, q⟩, fun x H2 y => ?_⟩
            obtain ⟨rfl, y⟩ := y
            have y := y vs' (SqL.of q1)
            rw [q3] at y
            cases y
            refine ⟨wipe_set hi, fun b => F b ∨ b = D, ρ', (clr vs env).set i (some (.ref ks[n])), S', r', (((e.xt x1).wipe).to x' (hbF x')).set q4, ?_⟩
            intro H3 ρ3 x3 r3
            rw [if_pos rfl]
            have hD3 := x3.keep D _ hD' nD'
            have nD3 := x3.out hD' nD'
            refine ⟨fun b => F b ∨ b = D, ρ3, (clr vs env).set i (some (.ref ks[n])), S', r3, ((((e.xt x1).wipe).to x' (hbF x')).set q4).xt x3, ?_⟩
            match q2 : em ((clr vs env).set i (some (.ref ks[n]))) S', a' with
            | some (.ok (.p y), S4), a' =>
              intro v4 H4 ρ4 x4 r4 v4r
              dsimp only at a'
              split at a'
              · rename_i hsz
                have hD4 := x4.keep D _ hD3 nD3
                have nD4 := x4.out hD3 nD3
                have x14 := (x'.trans x3).trans x4
                have ra4 := (ra'.xt x3).xt x4
                refine ⟨ws, hD4, by rw [← ra'.length]; exact hsz, hlt, ρ4, S4, acc ++ [y], ws ++ [v4], ?_, nD4, ?_, upd_same, ?_, a'⟩
                · refine ⟨fun b u eb nb => ?_, fun b nb => ?_, x14.len, x14.old⟩
                  · rw [upd_ne (ne_of_none eb nD)]; exact x14.keep b u eb nb
                  · by_cases z : b = D
                    · rw [z, upd_same]; simp
                    · rw [upd_ne z]; exact x14.stay b nb
                · refine ⟨r4.len, r4.nd, fun b qb => ?_, r4.ds, fun j a o h1 h2 => ?_, r4.go⟩
                  · by_cases z : b = D
                    · rw [z, upd_same]; simp
                    · rw [upd_ne z]; exact r4.al b qb
                  · have na : a ≠ D := fun z => r4.ds j a h1 (.inr z)
                    refine (r4.ob j a o h1 h2).chg (fun b u eb nb => ?_) (fun b qb => .inl qb) fun u ea => ?_
                    · rw [upd_ne (fun z => nb (.inl (.inr z)))]; exact eb
                    · rw [upd_ne na]; exact ea
                · have hk : ∀ b u, H4 b = some u → ¬ Bd (fun b => F b ∨ b = D) ρ4 b → upd H4 D (.lst (ws ++ [v4])) b = some u := fun b u eb nb => by
                    rw [upd_ne (fun z => nb (.inl (.inr z)))]; exact eb
                  exact (ra4.mono hk fun b qb => .inl qb).append (.cons (Rep.mono hk (fun b qb => .inl qb) v4r) .nil)
              · exact a'.elim
          · exact a'.elim
        · have hd : ks.drop n = [] := List.drop_eq_nil_of_le (Nat.le_of_not_lt hlt)
          rw [hd] at a'
          unfold lcRp at a'
          split at a'
          · rename_i hr
            obtain ⟨vs', q1, q2⟩ := here hr
            have hlv : ks.length = vs'.length := by have := q2.length; simpa using this
            refine .inl ⟨⟨vs', SqL.of q1, by omega⟩, ?_⟩
            refine (show KV1 K H F ρ Q (.p (.lst acc)) S' from a') (.ref D) H' ρ' (x1.trans x') (r'.weakF fun b q => .inl q) (.lst hD' (fun q => ?_) (ra'.mono (fun _ _ e _ => e) fun b q => .inl (q.elim (fun z => .inl (.inl z)) fun z => .inr z)))
            rcases q with q | q
            · exact nBD (.inl q)
            · exact nD' q
          · exact a'.elim
end
section
variable {X : Cx} {W : WX}
theorem de_lcRf {it elt : Expr} {ifs : List Expr} {scope : Scope} (i : Nat) (own : List (Str × Nat)) {pos : Pos} {mo : EM} {tm : TM} {tg : Expr} (hN : X.N.Nodup) (hi : DE X W it mo) (ok : BlkOk X.N X.env.scope scope own)
    (hg : ∀ (s : Shared) (H : Hp) (C : Addr) (cl : List (Str × Addr)) (fp : List Addr), PG (X.blk s H scope (compEnvC scope cl C X.env) fp) tg (gName i))
    (ht : ∀ (s : Shared) (H : Hp) (C : Addr) (cl : List (Str × Addr)) (fp : List Addr), PTs (X.blk s H scope (compEnvC scope cl C X.env) fp) ifs (TTx X.K X.mg W0 tm))
    (he : ∀ (s : Shared) (H : Hp) (C : Addr) (cl : List (Str × Addr)) (fp : List Addr), DE (X.blk s H scope (compEnvC scope cl C X.env) fp) W0 elt (mVar i))
    (hsl : i ∈ own.map (·.2) := by decide) (hc : X.calm = true := by rfl) (hs : ∀ x, foldedSetIterable it X.env x = pure x := by intro _; rfl) :
    DE X W (.ListComp elt [⟨tg, it, ifs, 0⟩] scope pos) (mLcRf (own.map (·.2)) i mo tm) :=
  PE.imp (pe_lc hc hN (pi_list hi) ok hg ht he hs) fun σ H Q h => lcRf_read hsl h
theorem de_lcRp {it elt : Expr} {scope : Scope} (i : Nat) (own : List (Str × Nat)) {pos : Pos} {mo em : EM} {tg : Expr} (hN : X.N.Nodup) (hi : DE X W it mo) (ok : BlkOk X.N X.env.scope scope own)
    (hg : ∀ (s : Shared) (H : Hp) (C : Addr) (cl : List (Str × Addr)) (fp : List Addr), PG (X.blk s H scope (compEnvC scope cl C X.env) fp) tg (gName i))
    (he : ∀ (s : Shared) (H : Hp) (C : Addr) (cl : List (Str × Addr)) (fp : List Addr), DE (X.blk s H scope (compEnvC scope cl C X.env) fp) W0 elt em)
    (hsl : i ∈ own.map (·.2) := by decide) (hc : X.calm = true := by rfl) (hs : ∀ x, foldedSetIterable it X.env x = pure x := by intro _; rfl) :
    DE X W (.ListComp elt [⟨tg, it, [], 0⟩] scope pos) (mLcRp (own.map (·.2)) i mo em) :=
  PE.imp (pe_lc hc hN (pi_list hi) ok hg (fun _ _ _ _ _ => dts_nil) he hs) fun σ H Q h => lcRp_read hsl h
theorem ds_setLcRf (k : Nat) {y : Str} {py : Pos} {it elt : Expr} {ifs : List Expr} {scope : Scope} (i : Nat) (own : List (Str × Nat)) {pos spos : Pos} {mo : EM} {tm : TM} {tg : Expr} (hN : X.N.Nodup) (hi : DE X W it mo) (ok : BlkOk X.N X.env.scope scope own)
    (hg : ∀ (s : Shared) (H : Hp) (C : Addr) (cl : List (Str × Addr)) (fp : List Addr), PG (X.blk s H scope (compEnvC scope cl C X.env) fp) tg (gName i))
    (ht : ∀ (s : Shared) (H : Hp) (C : Addr) (cl : List (Str × Addr)) (fp : List Addr), PTs (X.blk s H scope (compEnvC scope cl C X.env) fp) ifs (TTx X.K X.mg W0 tm))
    (he : ∀ (s : Shared) (H : Hp) (C : Addr) (cl : List (Str × Addr)) (fp : List Addr), DE (X.blk s H scope (compEnvC scope cl C X.env) fp) W0 elt (mVar i))
    (hsw : swapsWith (.ListComp elt [⟨tg, it, ifs, 0⟩] scope pos) (some (.Name y py)) spos.line X.env = pure true)
    (hsl : i ∈ own.map (·.2) := by decide) (hy : X.N[k]? = some y := by rfl) (hyl : X.env.scope.names.lookup y = some .local := by rfl) (hc : X.calm = true := by rfl) (hs : ∀ x, foldedSetIterable it X.env x = pure x := by intro _; rfl) :
    DS X W (.Assign [.Name y py] (.ListComp elt [⟨tg, it, ifs, 0⟩] scope pos) spos) (sSet k (mLcRf (own.map (·.2)) i mo tm)) := by
  refine PS.imp (ps_setLc (g := gName i) (te := TEx X.K X.mg W0 (mVar i)) hc hN hy hyl hsw (pi_list hi) ok hg ht he hs) fun D σ H ⟨F, ρ, env, S, r, e, h⟩ => ?_
  unfold sSet at h
  exact lcRf_read hsl ⟨F, ρ, env, S, r, e, h.stm.imp (fun d S1 h1 v H1 ρ1 x1 r1 v1 => (show KE1 X.K H F ρ D.nx (env.set k (some d)) S1 from h1) _ H1 ρ1 x1 r1 ((e.xt x1).set v1)) fun _ _ q => KXS.one e q⟩
theorem RVs.atI {K : PySem.W.Frag} {H : Hp} {F : Dom} {ρ : Rho} {ks : List Nat} {vs : List V} {n : Int} {j : Nat} (r : RVs K H F ρ (ks.map Val.ref) vs) (e : atI ks n = some j) : ∃ v, L2.atI vs n = some v ∧ RV K H F ρ (.ref j) v := by
  have hl : ks.length = vs.length := by have := r.length; simpa using this
  unfold L2.atI at e ⊢
  rw [← hl]
  cases q : L2.ixN ks.length n with
  | none => rw [q] at e; cases e
  | some k =>
    rw [q] at e
    have e : ks[k]? = some j := e
    exact r.get' (i := k) (x := .ref j) (by rw [List.getElem?_map, e]; rfl)
theorem de_idxR {a b : Expr} {ma mb : EM} {pos : Pos} (ha : DE X W a ma) (hb : DE X W b mb) (hs : PlainIx b := by intro _ _; rfl) : DE X W (.Subscript a b pos) (mIdxR ma mb) := by
  refine PE.imp (pe_ix ix_list ha hb hs) fun σ H Q ⟨F, ρ, env, S, r, e, h⟩ => ?_
  unfold mIdxR at h
  refine ⟨F, ρ, env, S, r, e, h.bnd.imp (fun d S1 h1 v H1 ρ1 x1 r1 v1 => ?_) fun _ _ q => q⟩
  refine ⟨F, ρ1, env, S1, r1, e.xt x1, h1.bnd.imp (fun d2 S2 h2 v2 H2 ρ2 x2 r2 w2 => ?_) fun _ _ q => q.xt x1⟩
  match d, d2, h2, v1, w2 with
  | .ref k, .p (.int n), h2, v1, w2 =>
    dsimp only at h2
    cases hk : S2[k]? with
    | none => rw [hk] at h2; exact h2.elim
    | some o =>
      rw [hk] at h2
      cases o with
      | gone => exact h2.elim
      | pl xs => exact h2.elim
      | pd xs => exact h2.elim
      | pdT xs => exact h2.elim
      | rl ks =>
        obtain ⟨j, e3, h2⟩ := h2.opt
        obtain ⟨a, ha, rfl, vs0, g1, g2⟩ := thing_lst r2 (v1.xt x2) hk (by simp)
        obtain rfl := (deref_rep r2 w2 (show deref S2 (.p (.int n)) = some (.int n) from rfl)).int
        obtain ⟨v3, e4, rv⟩ := g2.atI e3
        exact ⟨a, vs0, n, v3, rfl, rfl, SqL.of g1, e4, (show KV1 X.K H F ρ Q (.ref j) S2 from h2) v3 H2 ρ2 (x1.trans x2) r2 rv⟩
end
end Z

end
section
namespace Z
open PySem L2
/-! ### classes of marks -/
def reps (R : Nat → Nat → Bool) (n : Nat) : List Nat := (List.range n).filter fun a => (List.range a).all fun b => !R b a
def cls (R : Nat → Nat → Bool) (n a : Nat) : List Nat := (List.range n).filter (R a)
def grps (R : Nat → Nat → Bool) (n : Nat) : List (List Nat) := (reps R n).map (cls R n)
structure Eqv (R : Nat → Nat → Bool) : Prop where
  refl : ∀ a, R a a = true
  symm : ∀ a b, R a b = true → R b a = true
  trans : ∀ a b c, R a b = true → R b c = true → R a c = true
section
variable {R : Nat → Nat → Bool} {n : Nat}
theorem mem_reps {a : Nat} : a ∈ reps R n ↔ a < n ∧ ∀ b, b < a → R b a = false := by
  simp [reps, List.mem_filter]
theorem mem_cls {a b : Nat} : b ∈ cls R n a ↔ b < n ∧ R a b = true := by
  simp [cls, List.mem_filter]
theorem reps_succ : reps R (n + 1) = reps R n ++ if (List.range n).all (fun b => !R b n) = true then [n] else [] := by
  unfold reps
  rw [List.range_succ, List.filter_append, List.filter_cons, List.filter_nil]
theorem cls_succ {a : Nat} : cls R (n + 1) a = cls R n a ++ if R a n = true then [n] else [] := by
  unfold cls
  rw [List.range_succ, List.filter_append, List.filter_cons, List.filter_nil]
theorem cls_len {a : Nat} : (cls R n a).length ≤ n := by
  unfold cls
  have := List.length_filter_le (R a) (List.range n)
  simpa using this
theorem reps_len : (reps R n).length ≤ n := by
  unfold reps
  have := List.length_filter_le (fun a => (List.range a).all fun b => !R b a) (List.range n)
  simpa using this
theorem reps_nodup : (reps R n).Nodup := List.nodup_range.sublist List.filter_sublist
theorem cls_head (E : Eqv R) {a : Nat} : ∀ {n : Nat}, a ∈ reps R n → (cls R n a)[0]? = some a
  | 0, h => by simp [reps] at h
  | n + 1, h => by
    have hm := mem_reps.mp h
    rw [cls_succ]
    by_cases hn : a < n
    · have ih := cls_head E (n := n) (mem_reps.mpr ⟨hn, hm.2⟩)
      have hl := (List.getElem?_eq_some_iff.mp ih).1
      rw [List.getElem?_append_left hl]; exact ih
    · have : a = n := by omega
      subst this
      have e : cls R a a = [] := by
        unfold cls
        rw [List.filter_eq_nil_iff]
        intro b hb hr
        have := hm.2 b (List.mem_range.mp hb)
        rw [E.symm _ _ hr] at this; cases this
      rw [e, if_pos (E.refl a)]; rfl
theorem rep_ex (E : Eqv R) : ∀ (k b : Nat), b ≤ k → b < n → ∃ a ∈ reps R n, R a b = true ∧ a ≤ b
  | k, b, hk, hb => by
    by_cases h : ∃ c, c < b ∧ R c b = true
    · obtain ⟨c, hc, hr⟩ := h
      cases k with
      | zero => omega
      | succ k =>
        obtain ⟨a, h1, h2, h3⟩ := rep_ex E k c (by omega) (by omega)
        exact ⟨a, h1, E.trans _ _ _ h2 hr, by omega⟩
    · refine ⟨b, mem_reps.mpr ⟨hb, fun c hc => ?_⟩, E.refl b, Nat.le_refl _⟩
      cases q : R c b with
      | false => rfl
      | true => exact (h ⟨c, hc, q⟩).elim
theorem rep_of (E : Eqv R) {b : Nat} (hb : b < n) : ∃ a ∈ reps R n, R a b = true ∧ a ≤ b := rep_ex E b b (Nat.le_refl _) hb
theorem rep_one (E : Eqv R) {a b : Nat} (ha : a ∈ reps R n) (hb : b ∈ reps R n) (h : R a b = true) : a = b := by
  rcases Nat.lt_trichotomy a b with q | q | q
  · have := (mem_reps.mp hb).2 a q
    rw [h] at this; cases this
  · exact q
  · have := (mem_reps.mp ha).2 b q
    rw [E.symm _ _ h] at this; cases this
theorem reps_old (E : Eqv R) {a : Nat} (ha : a ∈ reps R n) (h : R a n = true) : reps R (n + 1) = reps R n := by
  rw [reps_succ, if_neg, List.append_nil]
  intro q
  have := List.all_eq_true.mp q a (List.mem_range.mpr (mem_reps.mp ha).1)
  rw [h] at this; cases this
theorem reps_new (E : Eqv R) (h : ∀ a ∈ reps R n, R a n = false) : reps R (n + 1) = reps R n ++ [n] ∧ cls R (n + 1) n = [n] := by
  have hb : ∀ b, b < n → R b n = false := fun b hb => by
    cases q : R b n with
    | false => rfl
    | true =>
      obtain ⟨a, h1, h2, _⟩ := rep_of E hb
      have := h a h1
      rw [E.trans _ _ _ h2 q] at this; cases this
  refine ⟨?_, ?_⟩
  · rw [reps_succ, if_pos]
    exact List.all_eq_true.mpr fun b q => by rw [hb b (List.mem_range.mp q)]; rfl
  · rw [cls_succ, if_pos (E.refl n)]
    have e : cls R n n = [] := by
      unfold cls
      rw [List.filter_eq_nil_iff]
      intro b q hr
      have := hb b (List.mem_range.mp q)
      rw [E.symm _ _ hr] at this; cases this
    rw [e]; rfl
end
open Classical in
noncomputable def cnB (fs : List F3) (a b : Nat) : Bool := decide (Conn fs (a : Int) (b : Int))
theorem cnB_iff {fs : List F3} {a b : Nat} : cnB fs a b = true ↔ Conn fs (a : Int) (b : Int) := by simp [cnB]
theorem cnB_eqv (fs : List F3) : Eqv (cnB fs) :=
  ⟨fun a => cnB_iff.mpr (Conn.refl _ _), fun a b h => cnB_iff.mpr (cnB_iff.mp h).symm, fun a b c h1 h2 => cnB_iff.mpr ((cnB_iff.mp h1).trans (cnB_iff.mp h2))⟩
abbrev nsP (g : List Nat) : P := .tup (g.map fun i : Nat => P.int (i : Int))
abbrev grP (gs : List (List Nat)) : P := .tup (gs.map nsP)
end Z

end
section
namespace Z
open PySem L2
def b_groups : SM :=
    sSeq (sSet 1 (mNewR []))
    (sSeq (sFor (.nm 2) (iRange1 (mP2 addP (mP2 idxP (mVar 0) (mC (.int 0))) (mC (.int 1)))) (sSeq (sSet 3 (mLcRf [4] 4 (mVar 1) (tB (mP2 isNotP (mCall f_way [mVar 0, mP2 idxP (mVar 4) (mC (.int 0)), mVar 2]) (mC .non)))))
      (sIf (tTr (mVar 3)) (sExpr (mMeth appV (mIdxR (mVar 3) (mC (.int 0))) (mVar 2))) (sExpr (mMeth appV (mVar 1) (mNewL [mVar 2]))))) [2, 3])
    (sRet (mPn tupleP [mLcRp [4] 4 (mVar 1) (mPn tupleP [mVar 4])])))
def f_groups : Fn := runF 5 (b_groups)
def b_form : SM :=
    sSeq (sExpr (mCall f_need_none [mVar 0]))
    (sSeq (sSet 1 (mNewL []))
    (sSeq (sFor (.nm 2) (iSeq (mCall f_groups [mVar 0])) (sFor (.tp [.nm 3, .nm 4]) (iZipM (mSl (mVar 2) none (some (mP1 negP (mC (.int 1))))) (mSl (mVar 2) (some (mC (.int 1))) none)) (sExpr (mMeth appV (mVar 1) (mTup [mVar 3, mVar 4, mCall f_told [mVar 0, mVar 3, mVar 4]]))) [3, 4]) [2, 3, 4])
    (sRet (mTup [mP2 idxP (mVar 0) (mC (.int 0)), mP2 idxP (mVar 0) (mC (.int 1)), mPn tupleP [mPn sortedP [mVar 1]]]))))
def f_form : Fn := runF 5 (b_form)
def b_lacking : SM :=
    sRet (mP2 subP (mPn lenP [mCall f_groups [mVar 0]]) (mC (.int 1)))
def f_lacking : Fn := runF 1 (b_lacking)
def b_is_settled : SM :=
    sRet (mP2 eqP (mCall f_lacking [mVar 0]) (mC (.int 0)))
def f_is_settled : Fn := runF 1 (b_is_settled)
def b_idle_facts : SM :=
    sSeq (sSet 1 (mNewL []))
    (sSeq (sFor (.tp [.nm 2, .tp [.nm 3, .nm 4, .nm 5]]) (iEnumM (mP2 idxP (mVar 0) (mC (.int 2)))) (sIf (tB (mP2 isNotP (mCall f_way [mTup [mP2 idxP (mVar 0) (mC (.int 0)), mP2 idxP (mVar 0) (mC (.int 1)), mSl (mP2 idxP (mVar 0) (mC (.int 2))) none (some (mVar 2))], mVar 3, mVar 4]) (mC .non))) (sExpr (mMeth appV (mVar 1) (mVar 2))) (sPass)) [2, 3, 4, 5])
    (sRet (mPn tupleP [mVar 1])))
def f_idle_facts : Fn := runF 6 (b_idle_facts)
def b_spare_facts : SM :=
    sSeq (sSet 1 (mNewL []))
    (sSeq (sFor (.tp [.nm 2, .tp [.nm 3, .nm 4, .nm 5]]) (iEnumM (mP2 idxP (mVar 0) (mC (.int 2)))) (sSeq (sSet 6 (mP2 addP (mSl (mP2 idxP (mVar 0) (mC (.int 2))) none (some (mVar 2))) (mSl (mP2 idxP (mVar 0) (mC (.int 2))) (some (mP2 addP (mVar 2) (mC (.int 1)))) none)))
      (sIf (tB (mP2 isNotP (mCall f_way [mTup [mP2 idxP (mVar 0) (mC (.int 0)), mP2 idxP (mVar 0) (mC (.int 1)), mVar 6], mVar 3, mVar 4]) (mC .non))) (sExpr (mMeth appV (mVar 1) (mVar 2))) (sPass))) [2, 3, 4, 5, 6])
    (sRet (mPn tupleP [mVar 1])))
def f_spare_facts : Fn := runF 7 (b_spare_facts)
def b_all_told : SM :=
    sSeq (sSet 1 (mNewL []))
    (sSeq (sFor (.nm 2) (iRange1 (mP2 idxP (mVar 0) (mC (.int 0)))) (sExpr (mMeth extV (mVar 1) (mLc [3] (.nm 3) (iRange2 (mP2 addP (mVar 2) (mC (.int 1))) (mP2 addP (mP2 idxP (mVar 0) (mC (.int 0))) (mC (.int 1)))) (tB (mP2 isNotP (mCall f_way [mVar 0, mVar 2, mVar 3]) (mC .non))) (mTup [mVar 2, mVar 3])))) [2])
    (sRet (mPn tupleP [mVar 1])))
def f_all_told : Fn := runF 4 (b_all_told)
end Z

end
section
namespace Z
open PySem L2
local macro_rules | `(tactic| tbr_iter [$ts,*]) => `(tactic| simp (disch := first | assumption | omega | decide | (simp only [List.length_map, List.length_cons, List.length_nil, List.length_append, List.length_range, List.length_take, List.length_drop]; omega)) only [ev_var0s, ev_varS, ev_c, dr_p, dr_0, dr_S, pu_pl, pu_pd, pu_pdT, retO_s, ev_mv, fMv_ref, fMvx_s, ev_p1, fP1_ok, fP1d_s, ev_p2, fP2a_ok, fP2a_exc, fP2b_ok, fP2b_exc, fP2c_s, evs_nil, evs_cons, fEa_ok, fEa_exc, fEb_ok, fEb_exc, drs_nil, drs_cons, fDc_s, ev_pn, fPn_ok, fPn_exc, fPd_s, purs_nil, purs_cons, ev_tup, fTup_ok, fTup_exc, fTd_s, ev_lst, fLst_ok, fLst_exc, fLd_s, ev_newL, fNewL_ok, fNewL_exc, fNd_s, ev_newD, ev_and, fAnd_t, fAnd_f, fAnd_exc, ev_or, fOr_t, fOr_f, fOr_exc, ev_not, fNot_b, fNot_exc, ev_if, fIf_t, fIf_f, fIf_exc, ev_tB, ftB_b, ftB_exc, ev_tTr, ftT_ok, ftT_exc, ftTd_s, tr_non, tr_bl, tr_int, tr_tup, tr_lst, tr_0, tr_S, otr_pl, ev_tand, ftAnd_t, ftAnd_f, ftAnd_exc, ev_tor, ftOr_t, ftOr_f, ftOr_exc, ev_tnot, ftNot_b, ftNot_exc, ev_tyes, ev_sl, fSa_ok, fSa_exc, fSb_ok, fSc_ok, fSd_s, evO_n, evO_s, fO_i, ev_ch, fCa_ok, fCb_ok, fCc_t, fCc_f, ev_call, fCall_ok, fCall_exc, fRp_ok, fRp_exc, cv_1, cv_2, cv_3, cv_4, cv_5, fRt_ok, ev_lc, it_seq, fSeq_t, fSeq_l, it_en, fEn_t, fEn_l, it_r1, fR1_ok, it_r2, fR2a_ok, fR2b_ok, it_z, fZa_ok, fZb_t, fZb_l, ev_me, fMa_ok, fMb_t, fMc_ok, fMc_exc, la_0, la_r0, la_S, fPush_s, app_S, ext_S, W_seq, W_pass, Wn_cons, Wn_nil, W_set, wSet_ok, wSet_exc, W_expr, wEx_ok, wEx_exc, W_ret, wRet_ok, wRet_exc, W_if, wIf_t, wIf_f, wIf_exc, W_brk, W_cont, W_raise, W_asg, wAsg_ok, wAsg_exc, wA_s, asg_nm, asg_tp, asg_tpl, asgs_nil, asgs_cons, fAs_s, W_par2, wPa_ok, wPa_exc, wPb_ok, wPb_exc, clr_nil, clr_cons, W_for, wFor_ok, wFor_exc, IQ_nx, IQ_ct, IQ_bk, IQ_rt, IQ_ex, wB_s, lcE1_s, lcE2_t, lcE2_f, lcE3_s, fLm_s, fLt_s, fLc_ok, o_mod, o_fdiv, o_mulR, o_mulL, o_addT, o_addL, o_sumT, o_sumL, o_app, o_ext, cut_map, cut_0j, cut_i, atI_map, atI_i, all_b, any_b, is_t, is_tl, is_ti, is_tb, is_tn, is_ts, is_i, is_ib, is_it, is_il, is_in, is_is, is_b, is_bi, is_bt, is_bl, is_bn, is_bs, tk_map, dp_map, app_map, neP_nn, neP_in, neP_ni, eqP_nn, eqP_in, eqP_ni, neP_bb, eqP_bb, ssm_fold, in_bl, ev_ixo, fIxa_ok, fIxb_bl, fIxc_s, ev_notT, fNotT_ok, fNotTd_s, W_par3, wP3a_ok, wP3b_ok, wP3c_ok, ev_rg1, fG1_ok, ev_rg2, fG2a_ok, fG2b_ok, ev_lstRg, ev_tupRg, ev_newRg, fLR_ok, fTR_ok, fNR_ok, ev_newOf, fNO_ok, fNOd_t, fNOd_l, setS_0, setS_S, W_sub, wS1_ok, wS2_ok, wS3_ok, wS4_s, TQ_nx, TQ_rt, TQ_ex, wTr_hit, wTr_miss, wTr_nil, rv_t, rv_l, rv_map, notIn_key, in_key, SQ_nx, SQ_rt, SQ_bk, SQ_ct, SQ_ex, addP_i, subP_i, negP_i, ltP_i, leP_i, gtP_i, geP_i, isP_n, isP_i, isP_b, isP_t, isP_l, isP_s, isNotP_n, isNotP_i, isNotP_b, isNotP_t, isNotP_l, isNotP_s, isP_bb, isNotP_bb, idxP_t, idxP_l, atI_0, atI_1, atI_2, sliceP_t, sliceP_l, lenP_t, lenP_l, lenP_f, tupleP_t, tupleP_l, listP_t, listP_l, minP_i, maxP_i, intP_i, intP_b, eqP_int, neP_int, List.set_cons_zero, List.set_cons_succ, List.length_cons, List.length_nil, List.map_cons, List.map_nil, List.length_map, List.cons_append, List.nil_append, List.append_nil, Option.map_some, Int.toNat_natCast, Int.reduceToNat, List.getElem?_map, List.getElem?_cons_zero, List.getElem?_cons_succ, List.replicate_zero, List.replicate_succ, Nat.sub_self, Nat.reduceSub, Nat.reduceAdd, Bool.not_true, Bool.not_false, List.take_zero, List.take_succ_cons, and_true, true_and, implies_true, decide_true, decide_false, Int.cast_ofNat_Int, Int.reduceEq, Int.reduceNe, Int.reduceLT, Int.reduceLE, $[$ts:term],*])
theorem ev_newR0 {env : Env} {S : List O} : mNewR [] env S = some (.ok (.ref S.length), S ++ [.rl []]) := rfl
theorem lcRf_fil {i k : Nat} {c : TM} {env : Env} {ks : List Nat} {S : List O} (hk : S[k]? = some (.rl ks)) (q : Nat × Nat → Bool) : ∀ (zs : List (Nat × Nat)) (acc : List Nat), acc.length + zs.length < 1000000 → (∀ z ∈ zs, c (env.set i (some (.ref z.1))) S = some (.ok (q z), S)) →
    lcRf i c env k ks (zs.map (·.1)) acc S = some (.ok (.ref S.length), S ++ [.rl (acc ++ (zs.filter q).map (·.1))]) := by
  have hr : rlAt S k ks = true := by unfold rlAt; rw [hk]; simp
  intro zs
  induction zs with
  | nil => intro acc _ _; simp [lcRf, hr]
  | cons z zs ih =>
    intro acc hl h
    rw [List.map_cons]
    unfold lcRf
    rw [if_pos hr, h z (by simp)]
    simp only [List.length_cons] at hl
    have hs : acc.length < sizeLine := sz' (by omega)
    cases qz : q z with
    | true =>
      dsimp only
      rw [if_pos hs, ih _ (by simp; omega) (fun z hz => h z (by simp [hz])), List.filter_cons_of_pos qz]
      simp
    | false =>
      dsimp only
      rw [ih _ (by omega) (fun z hz => h z (by simp [hz])), List.filter_cons_of_neg (by simp [qz])]
theorem lcRp_map {i k : Nat} {em : EM} {env : Env} {ks : List Nat} {S : List O} (hk : S[k]? = some (.rl ks)) (w : Nat × Nat → P) : ∀ (zs : List (Nat × Nat)) (acc : List P), acc.length + zs.length < 1000000 → (∀ z ∈ zs, em (env.set i (some (.ref z.1))) S = some (.ok (.p (w z)), S)) →
    lcRp i em env k ks (zs.map (·.1)) acc S = some (.ok (.p (.lst (acc ++ zs.map w))), S) := by
  have hr : rlAt S k ks = true := by unfold rlAt; rw [hk]; simp
  intro zs
  induction zs with
  | nil => intro acc _ _; simp [lcRp, hr]
  | cons z zs ih =>
    intro acc hl h
    rw [List.map_cons]
    unfold lcRp
    rw [if_pos hr, h z (by simp)]
    simp only [List.length_cons] at hl
    have hs : acc.length < sizeLine := sz' (by omega)
    dsimp only
    rw [if_pos hs, ih _ (by simp; omega) (fun z hz => h z (by simp [hz]))]
    simp
abbrev clP (g : List Nat) : List P := g.map fun i : Nat => P.int (i : Int)
structure GrI (fs : List F3) (n : Nat) (S : List O) (zs : List (Nat × Nat)) : Prop where
  rep : zs.map (·.2) = reps (cnB fs) n
  top : S[0]? = some (.rl (zs.map (·.1)))
  cl : ∀ z ∈ zs, S[z.1]? = some (.pl (clP (cls (cnB fs) n z.2)))
  ne : ∀ z ∈ zs, z.1 ≠ 0
  nd : zs.Pairwise fun a b => a.1 ≠ b.1
theorem GrI.len {fs : List F3} {n : Nat} {S : List O} {zs : List (Nat × Nat)} (G : GrI fs n S zs) : zs.length ≤ n := by
  have h : (zs.map (·.2)).length ≤ n := by rw [G.rep]; exact reps_len
  simpa using h
theorem GrI.eq {fs : List F3} {n : Nat} {S : List O} {zs : List (Nat × Nat)} (G : GrI fs n S zs) {a b : Nat × Nat} (ha : a ∈ zs) (hb : b ∈ zs) (h : a.2 = b.2) : a = b := by
  have hn : (zs.map (·.2)).Nodup := by rw [G.rep]; exact reps_nodup
  have := List.pairwise_map.mp hn
  clear hn
  have hp := G.nd
  clear G
  induction zs with
  | nil => simp at ha
  | cons z zs ih =>
    rw [List.pairwise_cons] at this hp
    rcases List.mem_cons.mp ha with rfl | qa <;> rcases List.mem_cons.mp hb with rfl | qb
    · rfl
    · exact (this.1 b qb h).elim
    · exact (this.1 a qa h.symm).elim
    · exact ih qa qb this.2 hp.2
theorem GrI.eq1 {fs : List F3} {n : Nat} {S : List O} {zs : List (Nat × Nat)} (G : GrI fs n S zs) {a b : Nat × Nat} (ha : a ∈ zs) (hb : b ∈ zs) (h : a.1 = b.1) : a = b := by
  have hp := G.nd
  clear G
  induction zs with
  | nil => simp at ha
  | cons z zs ih =>
    rw [List.pairwise_cons] at hp
    rcases List.mem_cons.mp ha with rfl | qa <;> rcases List.mem_cons.mp hb with rfl | qb
    · rfl
    · exact (hp.1 b qb h).elim
    · exact (hp.1 a qa h.symm).elim
    · exact ih qa qb hp.2
theorem GrI.old {fs : List F3} {n : Nat} {S : List O} {zs : List (Nat × Nat)} (G : GrI fs n S zs) {z0 : Nat × Nat} (hz : z0 ∈ zs) (hr : cnB fs z0.2 n = true) (o : O) :
    GrI fs (n + 1) ((S ++ [o]).set z0.1 (.pl (clP (cls (cnB fs) n z0.2) ++ [.int (n : Int)]))) zs := by
  have E := cnB_eqv fs
  have mr : ∀ z ∈ zs, z.2 ∈ reps (cnB fs) n := fun z h => by rw [← G.rep]; exact List.mem_map.mpr ⟨z, h, rfl⟩
  have lt : ∀ z ∈ zs, z.1 < S.length := fun z h => (List.getElem?_eq_some_iff.mp (G.cl z h)).1
  refine ⟨by rw [G.rep, reps_old E (mr z0 hz) hr], ?_, fun z h => ?_, G.ne, G.nd⟩
  · rw [List.getElem?_set_ne (G.ne z0 hz), List.getElem?_append_left (by have := lt z0 hz; omega)]; exact G.top
  · by_cases hq : z.1 = z0.1
    · obtain rfl := G.eq1 h hz hq
      rw [List.getElem?_set_self (by have := lt z hz; simp; omega), cls_succ, if_pos hr]
      simp
    · rw [List.getElem?_set_ne (Ne.symm hq), List.getElem?_append_left (lt z h), G.cl z h, cls_succ, if_neg, List.append_nil]
      intro q
      have := rep_one E (mr z h) (mr z0 hz) (E.trans _ _ _ q (E.symm _ _ hr))
      exact hq (by rw [G.eq h hz this])
theorem GrI.new {fs : List F3} {n : Nat} {S : List O} {zs : List (Nat × Nat)} (G : GrI fs n S zs) (hr : ∀ z ∈ zs, cnB fs z.2 n = false) (o : O) :
    GrI fs (n + 1) (((S ++ [o]) ++ [O.pl [P.int (n : Int)]]).set 0 (O.rl (zs.map (fun z => z.1) ++ [S.length + 1]))) (zs ++ [(S.length + 1, n)]) := by
  have E := cnB_eqv fs
  have lt : ∀ z ∈ zs, z.1 < S.length := fun z h => (List.getElem?_eq_some_iff.mp (G.cl z h)).1
  have l0 : 0 < S.length := (List.getElem?_eq_some_iff.mp G.top).1
  have hn := reps_new (R := cnB fs) (n := n) E fun a ha => by
    rw [← G.rep] at ha
    obtain ⟨z, hz, rfl⟩ := List.mem_map.mp ha
    exact hr z hz
  refine ⟨by rw [List.map_append, G.rep, hn.1]; rfl, ?_, fun z h => ?_, fun z h => ?_, ?_⟩
  · rw [List.getElem?_set_self (by simp)]; simp
  · rcases List.mem_append.mp h with h | h
    · rw [List.getElem?_set_ne (Ne.symm (G.ne z h)), List.append_assoc, List.getElem?_append_left (lt z h), G.cl z h, cls_succ, if_neg (by rw [hr z h]; simp), List.append_nil]
    · obtain rfl := List.mem_singleton.mp h
      rw [List.getElem?_set_ne (by simp), List.getElem?_append_right (by simp)]
      simp [hn.2]
  · rcases List.mem_append.mp h with h | h
    · exact G.ne z h
    · obtain rfl := List.mem_singleton.mp h; simp
  · rw [List.pairwise_append]
    refine ⟨G.nd, by simp, fun a ha b hb => ?_⟩
    obtain rfl := List.mem_singleton.mp hb
    have := lt a ha
    show a.1 ≠ S.length + 1
    omega
theorem groups_eq (l m : Int) (fs : List F3) (hl : 0 ≤ l) (hl2 : l ≤ 1000) (hg : Gd l m fs) (hf : fs.length ≤ 1000) : f_groups [.p (sP l m fs)] [] = some (.ok (.p (grP (grps (cnB fs) (l + 1).toNat))), []) := by
  refine fn_W (k := 5) ?_ rfl
  unfold b_groups
  tbr_iter [ev_newR0]
  refine W_rng (σ := List O) 0 (l + 1).toNat (fun _ => [some (.p (sP l m fs)), some (.ref 0), none, none, none]) (fun S => S) (fun i S => ∃ zs, GrI fs i S zs) [.rl []] rfl rfl ⟨[], rfl, rfl, by simp, by simp, .nil⟩ ?_ ?_
  · rintro i S hi ⟨zs, G⟩
    have hz : ∀ z ∈ zs, tB (mP2 isNotP (mCall f_way [mVar 0, mP2 idxP (mVar 4) (mC (.int 0)), mVar 2]) (mC .non)) [some (.p (sP l m fs)), some (.ref 0), some (.p (.int (i : Int))), none, some (.ref z.1)] S = some (.ok (cnB fs z.2 i), S) := fun z h => by
      have hr : z.2 ∈ reps (cnB fs) i := by rw [← G.rep]; exact List.mem_map.mpr ⟨z, h, rfl⟩
      have hh := cls_head (cnB_eqv fs) hr
      have hlt := (mem_reps.mp hr).1
      have hd : deref S (.ref z.1) = some (.lst (clP (cls (cnB fs) i z.2))) := by
        show (S[z.1]?).bind O.pure = _
        rw [G.cl z h]; rfl
      have hx : idxP (.lst (clP (cls (cnB fs) i z.2))) (.int 0) = some (.int (z.2 : Int)) := by
        show atI _ 0 = _
        rw [atI_i (by omega)]
        show (clP (cls (cnB fs) i z.2))[0]? = _
        rw [List.getElem?_map, hh]; rfl
      obtain ⟨r, hw, e⟩ := way_eq l m fs (z.2 : Int) (i : Int) hg hf hl2 (by omega) (by omega)
      have hb : cnB fs z.2 i = r.isSome := by
        cases r with
        | none => cases q : cnB fs z.2 i with
          | false => rfl
          | true => exact (hw (cnB_iff.mp q)).elim
        | some p => exact cnB_iff.mpr ⟨p, hw.1⟩
      rw [hb]
      cases r <;> (tbr_iter [hd, hx, e]; rfl)
    have hlc : ∀ env : Env, env.length = 5 → env[1]? = some (some (.ref 0)) → clr [4] env = [some (.p (sP l m fs)), some (.ref 0), some (.p (.int (i : Int))), none, none] → mLcRf [4] 4 (mVar 1) (tB (mP2 isNotP (mCall f_way [mVar 0, mP2 idxP (mVar 4) (mC (.int 0)), mVar 2]) (mC .non))) env S = some (.ok (.ref S.length), S ++ [.rl ((zs.filter fun z => cnB fs z.2 i).map (·.1))]) := fun env h5 h1 hc => by
      unfold mLcRf
      have hv : mVar 1 env S = some (.ok (.ref 0), S) := by simp only [mVar, h1]
      rw [hv]
      show (match S[0]? with | some (.rl ks) => if 4 < env.length then lcRf 4 _ (clr [4] env) 0 ks ks [] S else none | _ => none) = _
      rw [G.top]
      dsimp only
      rw [if_pos (by omega), hc, lcRf_fil G.top (fun z => cnB fs z.2 i) zs [] (by have := G.len; simp; omega) (fun z h => hz z h)]
      rfl
    have e0 : (0 : Int) + (i : Int) = (i : Int) := by omega
    rw [e0]
    tbr_iter []
    rw [hlc _ rfl rfl rfl, wSet_ok, Wn_cons, W_if]
    have hn0 : (S ++ [O.rl ((zs.filter fun z => cnB fs z.2 i).map (·.1))])[S.length]? = some (O.rl ((zs.filter fun z => cnB fs z.2 i).map (·.1))) := by simp
    have ht : ∀ env : Env, env[3]? = some (some (.ref S.length)) → tTr (mVar 3) env (S ++ [O.rl ((zs.filter fun z => cnB fs z.2 i).map (·.1))]) = some (.ok (!((zs.filter fun z => cnB fs z.2 i).map (·.1)).isEmpty), S ++ [O.rl ((zs.filter fun z => cnB fs z.2 i).map (·.1))]) := fun env h => by
      simp only [tTr, mVar, h, bnd, truthV, hn0, Option.bind_some, O.truth]
    rw [ht _ rfl]
    cases hq : zs.filter fun z => cnB fs z.2 i with
    | nil =>
      rw [List.map_nil, show (!([] : List Nat).isEmpty) = false from rfl, wIf_f, W_expr]
      have hno : ∀ z ∈ zs, cnB fs z.2 i = false := fun z h => by
        have := List.filter_eq_nil_iff.mp hq z h
        simpa using this
      have htop : ((S ++ [O.rl []]) ++ [O.pl [P.int (i : Int)]])[0]? = some (.rl (zs.map (fun z => z.1))) := by
        have l0 : 0 < S.length := (List.getElem?_eq_some_iff.mp G.top).1
        rw [List.append_assoc, List.getElem?_append_left l0]; exact G.top
      have htop1 : (S ++ [O.rl []])[0]? = some (.rl (zs.map (fun z => z.1))) := by
        have l0 : 0 < S.length := (List.getElem?_eq_some_iff.mp G.top).1
        rw [List.getElem?_append_left l0]; exact G.top
      have hle : (zs.map (fun z => z.1)).length < sizeLine := sz' (by have := G.len; simp; omega)
      have hm : ∀ env : Env, env[1]? = some (some (.ref 0)) → env[2]? = some (some (.p (.int (i : Int)))) → mMeth appV (mVar 1) (mNewL [mVar 2]) env (S ++ [O.rl []]) = some (.ok (.p .non), ((S ++ [O.rl []]) ++ [O.pl [P.int (i : Int)]]).set 0 (O.rl (zs.map (fun z => z.1) ++ [S.length + 1]))) := fun env h1 h2 => by
        have e2 : mNewL [mVar 2] env (S ++ [O.rl []]) = some (.ok (.ref (S ++ [O.rl []]).length), (S ++ [O.rl []]) ++ [O.pl [P.int (i : Int)]]) := by
          simp only [mNewL, evs, mVar, h2, bnd, purs, Val.pur, Option.bind_some]
        have e1 : mVar 1 env (S ++ [O.rl []]) = some (.ok (.ref 0), S ++ [O.rl []]) := by simp only [mVar, h1]
        unfold mMeth
        rw [e1]
        show (if lstAt (S ++ [O.rl []]) 0 = true then bnd (mNewL [mVar 2] env (S ++ [O.rl []])) (appV 0) else none) = _
        have hla : lstAt (S ++ [O.rl []]) 0 = true := by unfold lstAt; rw [htop1]
        rw [if_pos hla, e2]
        show appV 0 (.ref (S ++ [O.rl []]).length) ((S ++ [O.rl []]) ++ [O.pl [P.int (i : Int)]]) = _
        unfold appV
        rw [htop]
        dsimp only
        rw [if_pos hle, List.length_append]
        rfl
      rw [hm _ rfl rfl, wEx_ok]
      exact ⟨_, rfl, rfl, _, G.new hno _⟩
    | cons z0 w =>
      have hz0 : z0 ∈ zs ∧ cnB fs z0.2 i = true := by
        have : z0 ∈ zs.filter fun z => cnB fs z.2 i := by rw [hq]; simp
        simpa using List.mem_filter.mp this
      rw [List.map_cons, show (!(z0.1 :: w.map (·.1)).isEmpty) = true from rfl, wIf_t, W_expr]
      have hlt0 := (List.getElem?_eq_some_iff.mp (G.cl z0 hz0.1)).1
      have hg0 : (S ++ [O.rl (z0.1 :: w.map (·.1))])[z0.1]? = some (.pl (clP (cls (cnB fs) i z0.2))) := by
        rw [List.getElem?_append_left hlt0]; exact G.cl z0 hz0.1
      have hlast : (S ++ [O.rl (z0.1 :: w.map (·.1))])[S.length]? = some (O.rl (z0.1 :: w.map (·.1))) := by simp
      have hm : ∀ env : Env, env[3]? = some (some (.ref S.length)) → env[2]? = some (some (.p (.int (i : Int)))) → mMeth appV (mIdxR (mVar 3) (mC (.int 0))) (mVar 2) env (S ++ [O.rl (z0.1 :: w.map (·.1))]) = some (.ok (.p .non), (S ++ [O.rl (z0.1 :: w.map (·.1))]).set z0.1 (.pl (clP (cls (cnB fs) i z0.2) ++ [.int (i : Int)]))) := fun env h3 h2 => by
        have e1 : mIdxR (mVar 3) (mC (.int 0)) env (S ++ [O.rl (z0.1 :: w.map (·.1))]) = some (.ok (.ref z0.1), S ++ [O.rl (z0.1 :: w.map (·.1))]) := by
          unfold mIdxR
          have e3 : mVar 3 env (S ++ [O.rl (z0.1 :: w.map (·.1))]) = some (.ok (.ref S.length), S ++ [O.rl (z0.1 :: w.map (·.1))]) := by simp only [mVar, h3]
          rw [e3]
          show (match (S ++ [O.rl (z0.1 :: w.map (·.1))])[S.length]? with | some (.rl ks) => (atI ks 0).bind fun j => (some (Rs.ok (Val.ref j), S ++ [O.rl (z0.1 :: w.map (fun z : Nat × Nat => z.1))]) : Out Val) | _ => none) = _
          rw [hlast]
          dsimp only
          rw [atI_i (by omega)]
          rfl
        have e2 : mVar 2 env (S ++ [O.rl (z0.1 :: w.map (·.1))]) = some (.ok (.p (.int (i : Int))), S ++ [O.rl (z0.1 :: w.map (·.1))]) := by simp only [mVar, h2]
        unfold mMeth
        rw [e1]
        show (if lstAt (S ++ [O.rl (z0.1 :: w.map (·.1))]) z0.1 = true then bnd (mVar 2 env (S ++ [O.rl (z0.1 :: w.map (·.1))])) (appV z0.1) else none) = _
        have hla : lstAt (S ++ [O.rl (z0.1 :: w.map (·.1))]) z0.1 = true := by unfold lstAt; rw [hg0]
        rw [if_pos hla, e2]
        show appV z0.1 (.p (.int (i : Int))) (S ++ [O.rl (z0.1 :: w.map (·.1))]) = _
        unfold appV
        rw [hg0]
        dsimp only
        rw [if_pos (sz' (by have := cls_len (R := cnB fs) (n := i) (a := z0.2); simp; omega))]
      rw [hm _ rfl rfl, wEx_ok]
      exact ⟨_, rfl, rfl, _, G.old hz0.1 hz0.2 _⟩
  · rintro S ⟨zs, G⟩
    rw [Wn_cons, W_ret]
    have hv : mVar 1 [some (.p (sP l m fs)), some (.ref 0), none, none, none] S = some (.ok (.ref 0), S) := rfl
    have hlc : mLcRp [4] 4 (mVar 1) (mPn tupleP [mVar 4]) [some (.p (sP l m fs)), some (.ref 0), none, none, none] S = some (.ok (.p (.lst (zs.map fun z => nsP (cls (cnB fs) (l + 1).toNat z.2)))), S) := by
      unfold mLcRp
      rw [hv]
      show (match S[0]? with | some (.rl ks) => if 4 < 5 then lcRp 4 _ (clr [4] [some (.p (sP l m fs)), some (.ref 0), none, none, none]) 0 ks ks [] S else none | _ => none) = _
      rw [G.top]
      dsimp only
      rw [if_pos (by omega), lcRp_map G.top (fun z => nsP (cls (cnB fs) (l + 1).toNat z.2)) zs [] (by have := G.len; simp; omega) fun z h => ?_]
      · rfl
      · have hd : deref S (.ref z.1) = some (.lst (clP (cls (cnB fs) (l + 1).toNat z.2))) := by
          show (S[z.1]?).bind O.pure = _
          rw [G.cl z h]; rfl
        show mPn tupleP [mVar 4] [some (.p (sP l m fs)), some (.ref 0), none, none, some (.ref z.1)] S = _
        have hcl := cls_len (R := cnB fs) (n := (l + 1).toNat) (a := z.2)
        tbr_iter [hd]
    have hz := G.len
    have hend : (zs.map fun z => nsP (cls (cnB fs) (l + 1).toNat z.2)) = (grps (cnB fs) (l + 1).toNat).map nsP := by
      unfold grps
      rw [← G.rep, List.map_map, List.map_map]; rfl
    tbr_iter [hlc]
    rw [hend]
end Z

end
section
namespace Z
open PySem L2
/-! ### how many groups -/
theorem filter_ne_len {a : Nat} : ∀ {xs : List Nat}, xs.Nodup → a ∈ xs → (xs.filter fun x => decide (x ≠ a)).length + 1 = xs.length
  | [], _, h => by simp at h
  | x :: xs, hn, h => by
    rw [List.nodup_cons] at hn
    by_cases e : x = a
    · subst e
      rw [List.filter_cons_of_neg (by simp)]
      have : xs.filter (fun y => decide (y ≠ x)) = xs := List.filter_eq_self.mpr fun y hy => by
        simp only [decide_eq_true_eq]
        rintro rfl; exact hn.1 hy
      rw [this]; rfl
    · rw [List.filter_cons_of_pos (by simpa using e)]
      have := filter_ne_len hn.2 (by rcases List.mem_cons.mp h with z | z; exact absurd z.symm e; exact z)
      simp only [List.length_cons]; omega
def joinB (R : Nat → Nat → Bool) (x y : Nat) (a b : Nat) : Bool := R a b || (R a x && R y b) || (R a y && R x b)
section
variable {R : Nat → Nat → Bool} {n : Nat}
theorem joinB_iff {x y a b : Nat} : joinB R x y a b = true ↔ R a b = true ∨ (R a x = true ∧ R y b = true) ∨ (R a y = true ∧ R x b = true) := by
  simp [joinB, or_assoc]
theorem reps_join (E : Eqv R) {p q : Nat} (hp : p ∈ reps R n) (hq : q ∈ reps R n) (h : p < q) : reps (joinB R p q) n = (reps R n).filter fun x => decide (x ≠ q) := by
  unfold reps
  rw [List.filter_filter]
  apply List.filter_congr
  intro a ha
  have ha := List.mem_range.mp ha
  rw [Bool.eq_iff_iff]
  simp only [List.all_eq_true, Bool.and_eq_true, decide_eq_true_eq, List.mem_range]
  constructor
  · intro H
    refine ⟨?_, fun b hb => ?_⟩
    · rintro rfl
      have := H p h
      have j : joinB R p a p a = true := joinB_iff.mpr (.inr (.inl ⟨E.refl _, E.refl _⟩))
      rw [j] at this; cases this
    · have := H b hb
      cases r : R b a with
      | false => rfl
      | true => rw [joinB_iff.mpr (.inl r)] at this; cases this
  · rintro ⟨hn, H⟩ b hb
    have har : a ∈ reps R n := mem_reps.mpr ⟨ha, fun c hc => by have := H c hc; simpa using this⟩
    cases j : joinB R p q b a with
    | false => rfl
    | true =>
      rcases joinB_iff.mp j with r | ⟨r1, r2⟩ | ⟨r1, r2⟩
      · have := H b hb; rw [r] at this; cases this
      · exact absurd (rep_one E hq har r2).symm hn
      · have e := rep_one E hp har r2
        subst e
        have := (mem_reps.mp hq).2 b (by omega)
        rw [r1] at this; cases this
theorem reps_joinL (E : Eqv R) {x y : Nat} (hx : x < n) (hy : y < n) (h : R x y = false) : (reps (joinB R x y) n).length + 1 = (reps R n).length := by
  obtain ⟨p, hp, p1, _⟩ := rep_of E hx
  obtain ⟨q, hq, q1, _⟩ := rep_of E hy
  have same : joinB R x y = joinB R p q := by
    funext a b
    have s1 : ∀ a, R a x = R a p := fun a => by
      rw [Bool.eq_iff_iff]; exact ⟨fun z => E.trans _ _ _ z (E.symm _ _ p1), fun z => E.trans _ _ _ z p1⟩
    have s2 : ∀ a, R a y = R a q := fun a => by
      rw [Bool.eq_iff_iff]; exact ⟨fun z => E.trans _ _ _ z (E.symm _ _ q1), fun z => E.trans _ _ _ z q1⟩
    have s3 : ∀ a, R x a = R p a := fun a => by
      rw [Bool.eq_iff_iff]; exact ⟨fun z => E.trans _ _ _ p1 z, fun z => E.trans _ _ _ (E.symm _ _ p1) z⟩
    have s4 : ∀ a, R y a = R q a := fun a => by
      rw [Bool.eq_iff_iff]; exact ⟨fun z => E.trans _ _ _ q1 z, fun z => E.trans _ _ _ (E.symm _ _ q1) z⟩
    unfold joinB
    rw [s1, s2, s3, s4]
  have sym : joinB R p q = joinB R q p := by
    funext a b
    unfold joinB
    rw [Bool.or_assoc, Bool.or_assoc, Bool.or_comm (R a p && R q b)]
  have hne : p ≠ q := by
    rintro rfl
    rw [E.trans _ _ _ (E.symm _ _ p1) q1] at h; cases h
  rw [same]
  rcases Nat.lt_or_ge p q with z | z
  · rw [reps_join E hp hq z]
    exact filter_ne_len reps_nodup hq
  · rw [sym, reps_join E hq hp (by omega)]
    exact filter_ne_len reps_nodup hp
end
/-- how many groups there are -/
noncomputable def rc (fs : List F3) (n : Nat) : Nat := (reps (cnB fs) n).length
theorem grps_len {R : Nat → Nat → Bool} {n : Nat} : (grps R n).length = (reps R n).length := by simp [grps]
theorem cnB_congr {fs gs : List F3} (h : ∀ a b, Conn fs a b ↔ Conn gs a b) : cnB fs = cnB gs := by
  funext a b
  rw [Bool.eq_iff_iff, cnB_iff, cnB_iff]; exact h _ _
theorem conn_same {fs : List F3} {f : F3} (h : Conn fs f.1 f.2.1) (a b : Int) : Conn (fs ++ [f]) a b ↔ Conn fs a b := by
  constructor
  · intro q
    rcases conn_snoc.mp q with z | ⟨z1, z2⟩ | ⟨z1, z2⟩
    · exact z
    · exact (z1.trans h).trans z2
    · exact (z1.trans h.symm).trans z2
  · exact fun q => conn_snoc.mpr (.inl q)
theorem rc_same {fs : List F3} {f : F3} {n : Nat} (h : Conn fs f.1 f.2.1) : rc (fs ++ [f]) n = rc fs n := by
  unfold rc
  rw [cnB_congr (conn_same h)]
theorem rc_join {l m : Int} {fs : List F3} {f : F3} (hf : 0 ≤ f.1 ∧ f.1 < f.2.1 ∧ f.2.1 ≤ l) (h : ¬ Conn fs f.1 f.2.1) : rc (fs ++ [f]) (l + 1).toNat + 1 = rc fs (l + 1).toNat := by
  have e : cnB (fs ++ [f]) = joinB (cnB fs) f.1.toNat f.2.1.toNat := by
    funext a b
    have e1 : ((f.1.toNat : Nat) : Int) = f.1 := by omega
    have e2 : ((f.2.1.toNat : Nat) : Int) = f.2.1 := by omega
    rw [Bool.eq_iff_iff, joinB_iff, cnB_iff, cnB_iff, cnB_iff, cnB_iff, cnB_iff, cnB_iff, conn_snoc, e1, e2]
  unfold rc
  rw [e]
  refine reps_joinL (cnB_eqv fs) (by omega) (by omega) ?_
  cases q : cnB fs f.1.toNat f.2.1.toNat with
  | false => rfl
  | true =>
    have := cnB_iff.mp q
    rw [show ((f.1.toNat : Nat) : Int) = f.1 by omega, show ((f.2.1.toNat : Nat) : Int) = f.2.1 by omega] at this
    exact (h this).elim
theorem reps_all {R : Nat → Nat → Bool} (h : ∀ a b, a ≠ b → R a b = false) : ∀ n, reps R n = List.range n := fun n => by
  unfold reps
  rw [List.filter_eq_self]
  intro a ha
  exact List.all_eq_true.mpr fun b hb => by rw [h b a (by have := List.mem_range.mp hb; omega)]; rfl
theorem rc_nil (n : Nat) : rc [] n = n := by
  unfold rc
  rw [reps_all fun a b h => ?_]
  · simp
  · cases q : cnB [] a b with
    | false => rfl
    | true => have := conn_nil (cnB_iff.mp q); omega
theorem rc_ge {l m : Int} : ∀ (k : Nat) (fs : List F3), fs.length = k → Gd l m fs → (l + 1).toNat ≤ rc fs (l + 1).toNat + fs.length
  | 0, fs, hk, hg => by
    obtain rfl := List.length_eq_zero_iff.mp hk
    rw [rc_nil]; simp
  | k + 1, fs, hk, hg => by
    have hne : fs ≠ [] := by rintro rfl; simp at hk
    rw [← List.dropLast_concat_getLast hne] at hg ⊢
    have ih := rc_ge (l := l) (m := m) k fs.dropLast (by simp [hk]) fun f hf => hg f (by simp [hf])
    have hf := hg (fs.getLast hne) (by simp)
    by_cases hc : Conn fs.dropLast (fs.getLast hne).1 (fs.getLast hne).2.1
    · rw [rc_same hc, List.length_append]; omega
    · have := rc_join (m := m) (l := l) (f := fs.getLast hne) ⟨hf.1, hf.2.1, hf.2.2.1⟩ hc
      rw [List.length_append, List.length_singleton]; omega
end Z

end
section
namespace Z
open PySem L2
/-! ### from mark to the next one -/
def links : List Nat → List (Nat × Nat)
  | a :: b :: r => (a, b) :: links (b :: r)
  | _ => []
theorem links_len : ∀ g : List Nat, (links g).length = g.length - 1
  | [] => rfl
  | [a] => rfl
  | a :: b :: r => by rw [links, List.length_cons, links_len (b :: r)]; simp
theorem links_get : ∀ (g : List Nat) (i : Nat), i + 1 < g.length → (links g)[i]? = some (g[i]!, g[i+1]!)
  | [], _, h => by simp at h
  | [a], i, h => by simp at h
  | a :: b :: r, 0, h => by simp [links]
  | a :: b :: r, i + 1, h => by
    rw [links, List.getElem?_cons_succ, links_get (b :: r) i (by simpa using h)]
    simp
theorem links_mem : ∀ {g : List Nat} {p : Nat × Nat}, p ∈ links g → p.1 ∈ g ∧ p.2 ∈ g
  | [], _, h => by simp [links] at h
  | [a], _, h => by simp [links] at h
  | a :: b :: r, p, h => by
    rw [links] at h
    rcases List.mem_cons.mp h with rfl | z
    · simp
    · have := links_mem z
      exact ⟨List.mem_cons_of_mem _ this.1, List.mem_cons_of_mem _ this.2⟩
theorem links_lt : ∀ {g : List Nat} {p : Nat × Nat}, g.Pairwise (· < ·) → p ∈ links g → p.1 < p.2
  | [], _, _, h => by simp [links] at h
  | [a], _, _, h => by simp [links] at h
  | a :: b :: r, p, hg, h => by
    rw [links] at h
    rw [List.pairwise_cons] at hg
    rcases List.mem_cons.mp h with rfl | z
    · exact hg.1 b (by simp)
    · exact links_lt hg.2 z
theorem links_conn {gs : List F3} : ∀ {g : List Nat} {a : Nat}, (∀ p ∈ links g, Conn gs (p.1 : Int) (p.2 : Int)) → g.head? = some a → ∀ x ∈ g, Conn gs (a : Int) (x : Int)
  | [], _, _, h, _, _ => by simp at h
  | [b], a, _, h, x, hx => by
    simp at h hx
    subst h; subst hx; exact Conn.refl _ _
  | b :: c :: r, a, hl, h, x, hx => by
    have h : b = a := by simpa using h
    subst h
    rcases List.mem_cons.mp hx with rfl | z
    · exact Conn.refl _ _
    · exact (hl (b, c) (by simp [links])).trans (links_conn (g := c :: r) (fun p hp => hl p (by simp [links, hp])) rfl x z)
def linkF (φ : Int → Int) (m : Int) (p : Nat × Nat) : F3 := ((p.1 : Int), (p.2 : Int), (φ p.2 - φ p.1) % m)
def formG (φ : Int → Int) (m : Int) (gs : List (List Nat)) : List F3 := gs.flatMap fun g => (links g).map (linkF φ m)
theorem cls_lt {R : Nat → Nat → Bool} {n a : Nat} : (cls R n a).Pairwise (· < ·) := List.pairwise_lt_range.sublist List.filter_sublist
section
variable {R : Nat → Nat → Bool} {n : Nat} {φ : Int → Int} {m : Int}
theorem mem_form {f : F3} : f ∈ formG φ m (grps R n) ↔ ∃ a ∈ reps R n, ∃ p ∈ links (cls R n a), linkF φ m p = f := by
  unfold formG grps
  rw [List.mem_flatMap]
  constructor
  · rintro ⟨g, h1, h2⟩
    obtain ⟨a, ha, rfl⟩ := List.mem_map.mp h1
    obtain ⟨p, hp, e⟩ := List.mem_map.mp h2
    exact ⟨a, ha, p, hp, e⟩
  · rintro ⟨a, ha, p, hp, e⟩
    exact ⟨_, List.mem_map.mpr ⟨a, ha, rfl⟩, List.mem_map.mpr ⟨p, hp, e⟩⟩
theorem sum_ind {p : Nat → Bool} {a0 : Nat} : ∀ {xs : List Nat}, xs.Nodup → a0 ∈ xs → (∀ a ∈ xs, p a = true ↔ a = a0) → (xs.map fun a => if p a = true then 1 else 0).sum = 1
  | [], _, h, _ => by simp at h
  | x :: xs, hn, h, hp => by
    rw [List.nodup_cons] at hn
    rw [List.map_cons, List.sum_cons]
    by_cases e : x = a0
    · subst e
      rw [if_pos ((hp x (by simp)).mpr rfl)]
      have : (xs.map fun a => if p a = true then 1 else 0) = xs.map fun _ => 0 := List.map_congr_left fun a ha => by
        rw [if_neg]
        intro q
        have := (hp a (by simp [ha])).mp q
        subst this; exact hn.1 ha
      rw [this]
      have z : ∀ ys : List Nat, (ys.map fun _ => 0).sum = 0 := fun ys => by induction ys with
        | nil => rfl
        | cons y ys ih => rw [List.map_cons, List.sum_cons, ih]
      rw [z]
    · rw [if_neg fun q => e ((hp x (by simp)).mp q), sum_ind hn.2 (by rcases List.mem_cons.mp h with z | z; exact absurd z.symm e; exact z) fun a ha => hp a (by simp [ha])]
theorem sum_add (f g : Nat → Nat) : ∀ xs : List Nat, (xs.map fun a => f a + g a).sum = (xs.map f).sum + (xs.map g).sum
  | [] => rfl
  | x :: xs => by simp only [List.map_cons, List.sum_cons, sum_add f g xs]; omega
theorem cls_tot (E : Eqv R) : ∀ n, ((reps R n).map fun a => (cls R n a).length).sum = n
  | 0 => by simp [reps]
  | n + 1 => by
    have ih := cls_tot E n
    have hl : ∀ a, (cls R (n + 1) a).length = (cls R n a).length + if R a n = true then 1 else 0 := fun a => by
      rw [cls_succ, List.length_append]
      by_cases h : R a n = true
      · rw [if_pos h, if_pos h]; rfl
      · rw [if_neg h, if_neg h]; rfl
    by_cases h : ∃ a ∈ reps R n, R a n = true
    · obtain ⟨a0, ha, hr⟩ := h
      rw [reps_old E ha hr, List.map_congr_left fun a _ => hl a, sum_add, ih, sum_ind reps_nodup ha fun a h1 => ?_]
      constructor
      · intro q
        exact rep_one E h1 ha (E.trans _ _ _ q (E.symm _ _ hr))
      · rintro rfl; exact hr
    · have hno : ∀ a ∈ reps R n, R a n = false := fun a ha => by
        cases q : R a n with
        | false => rfl
        | true => exact (h ⟨a, ha, q⟩).elim
      have hn := reps_new E hno
      rw [hn.1, List.map_append, List.sum_append, List.map_congr_left (g := fun a => (cls R n a).length) fun a ha => by rw [hl a, if_neg (by rw [hno a ha]; simp)]; rfl, ih]
      simp [hn.2]
theorem form_len (E : Eqv R) : (formG φ m (grps R n)).length + (reps R n).length = n := by
  have h1 : ∀ xs : List Nat, (∀ a ∈ xs, a ∈ reps R n) → (formG φ m (xs.map (cls R n))).length + xs.length = (xs.map fun a => (cls R n a).length).sum := by
    intro xs
    induction xs with
    | nil => intro _; rfl
    | cons a xs ih =>
      intro h
      have := ih fun b hb => h b (by simp [hb])
      have ha := cls_head E (h a (by simp))
      have hl : 0 < (cls R n a).length := (List.getElem?_eq_some_iff.mp ha).1
      unfold formG at this ⊢
      rw [List.map_cons, List.flatMap_cons, List.length_append, List.length_map, links_len, List.map_cons, List.sum_cons, List.length_cons]
      omega
  have := h1 (reps R n) fun a h => h
  rw [cls_tot E] at this
  exact this
end
theorem form_gd {fs : List F3} {φ : Int → Int} {l m : Int} (hm : 0 < m) (hl : 0 ≤ l) : Gd l m (formG φ m (grps (cnB fs) (l + 1).toNat)) := by
  intro f hf
  obtain ⟨a, ha, p, hp, rfl⟩ := mem_form.mp hf
  have h1 := links_mem hp
  have h2 := links_lt cls_lt hp
  have h3 := (mem_cls.mp h1.1).1
  have h4 := (mem_cls.mp h1.2).1
  unfold linkF
  have h5 := Int.emod_nonneg (φ p.2 - φ p.1) (b := m) (by omega)
  have h6 := Int.emod_lt_of_pos (φ p.2 - φ p.1) hm
  refine ⟨by show (0 : Int) ≤ p.1; omega, by show (p.1 : Int) < p.2; omega, by show (p.2 : Int) ≤ l; omega, h5, h6⟩
theorem form_conn {fs : List F3} {φ : Int → Int} {l m : Int} (hl : 0 ≤ l) (hg : Gd l m fs) (a b : Int) : Conn (formG φ m (grps (cnB fs) (l + 1).toNat)) a b ↔ Conn fs a b := by
  have E := cnB_eqv fs
  constructor
  · intro h
    refine h.sub fun f hf => ?_
    obtain ⟨a, ha, p, hp, rfl⟩ := mem_form.mp hf
    have h1 := links_mem hp
    exact (cnB_iff.mp (mem_cls.mp h1.1).2).symm.trans (cnB_iff.mp (mem_cls.mp h1.2).2)
  · intro h
    refine h.sub fun f hf => ?_
    have g := hg f hf
    have e1 : ((f.1.toNat : Nat) : Int) = f.1 := by omega
    have e2 : ((f.2.1.toNat : Nat) : Int) = f.2.1 := by omega
    have hx : f.1.toNat < (l + 1).toNat := by omega
    have hy : f.2.1.toNat < (l + 1).toNat := by omega
    obtain ⟨a, ha, h1, _⟩ := rep_of E hx
    have h2 : cnB fs a f.2.1.toNat = true := by
      refine E.trans _ _ _ h1 (cnB_iff.mpr ?_)
      rw [e1, e2]; exact Conn.fact hf
    have hc : ∀ x ∈ cls (cnB fs) (l + 1).toNat a, Conn (formG φ m (grps (cnB fs) (l + 1).toNat)) (a : Int) (x : Int) := by
      refine links_conn (fun p hp => ?_) ?_
      · exact Conn.fact (f := linkF φ m p) (mem_form.mpr ⟨a, ha, p, hp, rfl⟩)
      · have := cls_head E ha
        rw [List.head?_eq_getElem?]; exact this
    have c1 := hc _ (mem_cls.mpr ⟨hx, h1⟩)
    have c2 := hc _ (mem_cls.mpr ⟨hy, h2⟩)
    rw [e1] at c1
    rw [e2] at c2
    exact c1.symm.trans c2
theorem form_pot {R : Nat → Nat → Bool} {n : Nat} {φ : Int → Int} {m : Int} : Pot m (formG φ m (grps R n)) φ := by
  intro f hf
  obtain ⟨a, ha, p, hp, rfl⟩ := mem_form.mp hf
  show (φ p.2 - φ p.1 - (φ p.2 - φ p.1) % m) % m = 0
  exact eq_mod0 (Int.emod_emod_of_dvd _ (Int.dvd_refl m)).symm
theorem Conn.perm {fs gs : List F3} (h : fs.Perm gs) (a b : Int) : Conn fs a b ↔ Conn gs a b := ⟨Conn.mono fun f hf => h.mem_iff.mp hf, Conn.mono fun f hf => h.mem_iff.mpr hf⟩
end Z

end
section
namespace Z
open PySem L2
/-! ### data that are as their encodings are -/
structure Enc {α : Type} [DecidableEq α] (n : Nat) (g : α → P) : Prop where
  eq : ∀ x y, eqB (g x) (g y) = decide (x = y)
  ly : ∀ x, lay n (g x) = true
section
variable {α : Type} [DecidableEq α] {n : Nat} {g : α → P}
theorem lay_le {m : Nat} {p : P} : ∀ {k : Nat}, m ≤ k → lay m p = true → lay k p = true
  | 0, h, q => by obtain rfl : m = 0 := by omega
                  exact q
  | k + 1, h, q => by
    by_cases e : m = k + 1
    · rw [← e]; exact q
    · exact lay_up k p (lay_le (by omega) q)
theorem Enc.eqs (E : Enc n g) : ∀ xs ys : List α, eqBs (xs.map g) (ys.map g) = decide (xs = ys)
  | [], [] => by simp [eqBs]
  | [], y :: ys => by simp [eqBs]
  | x :: xs, [] => by simp [eqBs]
  | x :: xs, y :: ys => by
    rw [List.map_cons, List.map_cons, eqBs, E.eq, E.eqs xs ys]
    by_cases h : x = y <;> by_cases h2 : xs = ys <;> simp [h, h2]
theorem Enc.lys (E : Enc n g) : ∀ xs : List α, lays n (xs.map g) = true
  | [] => by simp [lays]
  | x :: xs => by rw [List.map_cons, lays, E.ly, E.lys xs]; rfl
theorem Enc.int : Enc 0 (fun i : Int => P.int i) := ⟨fun x y => by rw [eqB]; rfl, fun x => by rw [lay]⟩
theorem Enc.nat : Enc 0 (fun i : Nat => P.int (i : Int)) := ⟨fun x y => by
  rw [eqB]
  by_cases h : x = y
  · subst h; simp
  · have : ¬ (x : Int) = (y : Int) := by omega
    simp [h, this], fun x => by rw [lay]⟩
theorem Enc.tup (E : Enc n g) : Enc (n + 1) (fun xs : List α => P.tup (xs.map g)) := ⟨fun x y => by rw [eqB]; exact E.eqs x y, fun x => by rw [lay]; exact E.lys x⟩
theorem Enc.lst (E : Enc n g) : Enc (n + 1) (fun xs : List α => P.lst (xs.map g)) := ⟨fun x y => by rw [eqB]; exact E.eqs x y, fun x => by rw [lay]; exact E.lys x⟩
theorem Enc.f3 : Enc 1 fP := ⟨fun x y => by
  obtain ⟨a, b, c⟩ := x
  obtain ⟨a', b', c'⟩ := y
  show eqB (.tup [.int a, .int b, .int c]) (.tup [.int a', .int b', .int c']) = _
  simp only [eqB, eqBs, Bool.and_true]
  by_cases h1 : a = a' <;> by_cases h2 : b = b' <;> by_cases h3 : c = c' <;> simp [h1, h2, h3], fun x => by
  obtain ⟨a, b, c⟩ := x
  show lay 1 (.tup [.int a, .int b, .int c]) = true
  simp [lay, lays]⟩
theorem Enc.p2 : Enc 1 (fun p : Int × Int => P.tup [.int p.1, .int p.2]) := ⟨fun x y => by
  obtain ⟨a, b⟩ := x
  obtain ⟨a', b'⟩ := y
  simp only [eqB, eqBs, Bool.and_true]
  by_cases h1 : a = a' <;> by_cases h2 : b = b' <;> simp [h1, h2], fun x => by
  simp [lay, lays]⟩
theorem Enc.eqP (E : Enc n g) (h : n ≤ 16) (x y : α) : eqP (g x) (g y) = some (.bl (decide (x = y))) := by
  unfold Z.eqP
  rw [if_pos, E.eq]
  rw [lay_le h (E.ly x), lay_le h (E.ly y)]; rfl
theorem Enc.neP (E : Enc n g) (h : n ≤ 16) (x y : α) : neP (g x) (g y) = some (.bl (!decide (x = y))) := by
  unfold Z.neP
  rw [if_pos, E.eq]
  rw [lay_le h (E.ly x), lay_le h (E.ly y)]; rfl
theorem Enc.any (E : Enc n g) (x : α) : ∀ ys : List α, ((ys.map g).any fun z => eqB z (g x)) = decide (x ∈ ys)
  | [] => by simp
  | y :: ys => by
    rw [List.map_cons, List.any_cons, E.eq, E.any x ys]
    by_cases h : x = y
    · subst h; simp
    · have h2 : ¬ y = x := fun z => h z.symm
      simp [h, h2]
theorem Enc.inL (E : Enc n g) (h : n ≤ 15) (x : α) (ys : List α) : inP (g x) (.lst (ys.map g)) = some (.bl (decide (x ∈ ys))) := by
  unfold Z.inP
  dsimp only
  rw [if_pos, E.any]
  rw [lay_le (by omega) (E.ly x), lay_le (by omega) (E.lst.ly ys)]; rfl
theorem Enc.inT (E : Enc n g) (h : n ≤ 15) (x : α) (ys : List α) : inP (g x) (.tup (ys.map g)) = some (.bl (decide (x ∈ ys))) := by
  unfold Z.inP
  dsimp only
  rw [if_pos, E.any]
  rw [lay_le (by omega) (E.ly x), lay_le (by omega) (E.tup.ly ys)]; rfl
theorem Enc.notL (E : Enc n g) (h : n ≤ 15) (x : α) (ys : List α) : notInP (g x) (.lst (ys.map g)) = some (.bl (!decide (x ∈ ys))) := by
  unfold Z.notInP
  dsimp only
  rw [if_pos, E.any]
  rw [lay_le (by omega) (E.ly x), lay_le (by omega) (E.lst.ly ys)]; rfl
theorem Enc.notT (E : Enc n g) (h : n ≤ 15) (x : α) (ys : List α) : notInP (g x) (.tup (ys.map g)) = some (.bl (!decide (x ∈ ys))) := by
  unfold Z.notInP
  dsimp only
  rw [if_pos, E.any]
  rw [lay_le (by omega) (E.ly x), lay_le (by omega) (E.tup.ly ys)]; rfl
theorem Enc.notLt (E : Enc n g) (h : n ≤ 15) {x : α} {ys : List α} (q : x ∉ ys) : notInP (g x) (.lst (ys.map g)) = some (.bl true) := by rw [E.notL h, decide_eq_false q]; rfl
theorem Enc.notLf (E : Enc n g) (h : n ≤ 15) {x : α} {ys : List α} (q : x ∈ ys) : notInP (g x) (.lst (ys.map g)) = some (.bl false) := by rw [E.notL h, decide_eq_true q]; rfl
theorem Enc.notTt (E : Enc n g) (h : n ≤ 15) {x : α} {ys : List α} (q : x ∉ ys) : notInP (g x) (.tup (ys.map g)) = some (.bl true) := by rw [E.notT h, decide_eq_false q]; rfl
theorem Enc.notTf (E : Enc n g) (h : n ≤ 15) {x : α} {ys : List α} (q : x ∈ ys) : notInP (g x) (.tup (ys.map g)) = some (.bl false) := by rw [E.notT h, decide_eq_true q]; rfl
theorem Enc.inLt (E : Enc n g) (h : n ≤ 15) {x : α} {ys : List α} (q : x ∈ ys) : inP (g x) (.lst (ys.map g)) = some (.bl true) := by rw [E.inL h, decide_eq_true q]
theorem Enc.inLf (E : Enc n g) (h : n ≤ 15) {x : α} {ys : List α} (q : x ∉ ys) : inP (g x) (.lst (ys.map g)) = some (.bl false) := by rw [E.inL h, decide_eq_false q]
theorem Enc.inTt (E : Enc n g) (h : n ≤ 15) {x : α} {ys : List α} (q : x ∈ ys) : inP (g x) (.tup (ys.map g)) = some (.bl true) := by rw [E.inT h, decide_eq_true q]
theorem Enc.inTf (E : Enc n g) (h : n ≤ 15) {x : α} {ys : List α} (q : x ∉ ys) : inP (g x) (.tup (ys.map g)) = some (.bl false) := by rw [E.inT h, decide_eq_false q]
theorem Enc.eqt (E : Enc n g) (h : n ≤ 16) (x : α) : Z.eqP (g x) (g x) = some (.bl true) := by rw [E.eqP h, decide_eq_true rfl]
theorem Enc.eqf (E : Enc n g) (h : n ≤ 16) {x y : α} (q : x ≠ y) : Z.eqP (g x) (g y) = some (.bl false) := by rw [E.eqP h, decide_eq_false q]
theorem Enc.nef (E : Enc n g) (h : n ≤ 16) (x : α) : Z.neP (g x) (g x) = some (.bl false) := by rw [E.neP h, decide_eq_true rfl]; rfl
theorem Enc.net (E : Enc n g) (h : n ≤ 16) {x y : α} (q : x ≠ y) : Z.neP (g x) (g y) = some (.bl true) := by rw [E.neP h, decide_eq_false q]; rfl
end
end Z

end
section
namespace Z
open PySem L2
def b_l_form : SM :=
    sSeq (sSet 1 (mC .non))
    (sSeq (sTry ["Clash"] [("Clash", sSet 1 (mC (.str "Clash")))] (sSet 1 (mCall f_form [mVar 0])))
    (sRet (mVar 1)))
def f_l_form : Fn := runF 2 (b_l_form)
def b_l_groups : SM :=
    sSeq (sSet 1 (mLstRg (rg1 (mP2 addP (mP2 idxP (mVar 0) (mC (.int 0))) (mC (.int 1))))))
    (sSeq (sFor (.tp [.nm 2, .nm 3, .nm 4]) (iSeq (mP2 idxP (mVar 0) (mC (.int 2)))) (sSeq (sSet 5 (mP2 idxP (mVar 1) (mVar 3)))
      (sSet 1 (mLc [9] (.nm 9) (iSeq (mVar 1)) (tYesM) (mIf (tB (mP2 eqP (mVar 9) (mVar 5))) (mP2 idxP (mVar 1) (mVar 2)) (mVar 9))))) [2, 3, 4, 5])
    (sSeq (sSet 6 (mNewL []))
    (sSeq (sFor (.nm 7) (iRange1 (mP2 addP (mP2 idxP (mVar 0) (mC (.int 0))) (mC (.int 1)))) (sSeq (sSet 8 (mPn tupleP [mLc [10] (.nm 10) (iRange1 (mP2 addP (mP2 idxP (mVar 0) (mC (.int 0))) (mC (.int 1)))) (tB (mP2 eqP (mP2 idxP (mVar 1) (mVar 10)) (mP2 idxP (mVar 1) (mVar 7)))) (mVar 10)]))
      (sIf (tB (mP2 notInP (mVar 8) (mVar 6))) (sExpr (mMeth appV (mVar 6) (mVar 8))) (sPass))) [7, 8])
    (sRet (mPn tupleP [mVar 6])))))
def f_l_groups : Fn := runF 11 (b_l_groups)
end Z

end
section
namespace Z
open PySem L2
local macro_rules | `(tactic| tbr_iter [$ts,*]) => `(tactic| simp (disch := first | assumption | omega | decide | (simp only [List.length_map, List.length_cons, List.length_nil, List.length_append, List.length_range, List.length_take, List.length_drop]; omega)) only [ev_var0s, ev_varS, ev_c, dr_p, dr_0, dr_S, pu_pl, pu_pd, pu_pdT, retO_s, ev_mv, fMv_ref, fMvx_s, ev_p1, fP1_ok, fP1d_s, ev_p2, fP2a_ok, fP2a_exc, fP2b_ok, fP2b_exc, fP2c_s, evs_nil, evs_cons, fEa_ok, fEa_exc, fEb_ok, fEb_exc, drs_nil, drs_cons, fDc_s, ev_pn, fPn_ok, fPn_exc, fPd_s, purs_nil, purs_cons, ev_tup, fTup_ok, fTup_exc, fTd_s, ev_lst, fLst_ok, fLst_exc, fLd_s, ev_newL, fNewL_ok, fNewL_exc, fNd_s, ev_newD, ev_and, fAnd_t, fAnd_f, fAnd_exc, ev_or, fOr_t, fOr_f, fOr_exc, ev_not, fNot_b, fNot_exc, ev_if, fIf_t, fIf_f, fIf_exc, ev_tB, ftB_b, ftB_exc, ev_tTr, ftT_ok, ftT_exc, ftTd_s, tr_non, tr_bl, tr_int, tr_tup, tr_lst, tr_0, tr_S, otr_pl, ev_tand, ftAnd_t, ftAnd_f, ftAnd_exc, ev_tor, ftOr_t, ftOr_f, ftOr_exc, ev_tnot, ftNot_b, ftNot_exc, ev_tyes, ev_sl, fSa_ok, fSa_exc, fSb_ok, fSc_ok, fSd_s, evO_n, evO_s, fO_i, ev_ch, fCa_ok, fCb_ok, fCc_t, fCc_f, ev_call, fCall_ok, fCall_exc, fRp_ok, fRp_exc, cv_1, cv_2, cv_3, cv_4, cv_5, fRt_ok, ev_lc, it_seq, fSeq_t, fSeq_l, it_en, fEn_t, fEn_l, it_r1, fR1_ok, it_r2, fR2a_ok, fR2b_ok, it_z, fZa_ok, fZb_t, fZb_l, ev_me, fMa_ok, fMb_t, fMc_ok, fMc_exc, la_0, la_r0, la_S, fPush_s, app_S, ext_S, W_seq, W_pass, Wn_cons, Wn_nil, W_set, wSet_ok, wSet_exc, W_expr, wEx_ok, wEx_exc, W_ret, wRet_ok, wRet_exc, W_if, wIf_t, wIf_f, wIf_exc, W_brk, W_cont, W_raise, W_asg, wAsg_ok, wAsg_exc, wA_s, asg_nm, asg_tp, asg_tpl, asgs_nil, asgs_cons, fAs_s, W_par2, wPa_ok, wPa_exc, wPb_ok, wPb_exc, clr_nil, clr_cons, W_for, wFor_ok, wFor_exc, IQ_nx, IQ_ct, IQ_bk, IQ_rt, IQ_ex, wB_s, lcE1_s, lcE2_t, lcE2_f, lcE3_s, fLm_s, fLt_s, fLc_ok, o_mod, o_fdiv, o_mulR, o_mulL, o_addT, o_addL, o_sumT, o_sumL, o_app, o_ext, cut_map, cut_0j, cut_i, atI_map, atI_i, all_b, any_b, is_t, is_tl, is_ti, is_tb, is_tn, is_ts, is_i, is_ib, is_it, is_il, is_in, is_is, is_b, is_bi, is_bt, is_bl, is_bn, is_bs, tk_map, dp_map, app_map, neP_nn, neP_in, neP_ni, eqP_nn, eqP_in, eqP_ni, neP_bb, eqP_bb, ssm_fold, in_bl, ev_ixo, fIxa_ok, fIxb_bl, fIxc_s, ev_notT, fNotT_ok, fNotTd_s, W_par3, wP3a_ok, wP3b_ok, wP3c_ok, ev_rg1, fG1_ok, ev_rg2, fG2a_ok, fG2b_ok, ev_lstRg, ev_tupRg, ev_newRg, fLR_ok, fTR_ok, fNR_ok, ev_newOf, fNO_ok, fNOd_t, fNOd_l, setS_0, setS_S, W_sub, wS1_ok, wS2_ok, wS3_ok, wS4_s, TQ_nx, TQ_rt, TQ_ex, wTr_hit, wTr_miss, wTr_nil, rv_t, rv_l, rv_map, notIn_key, in_key, SQ_nx, SQ_rt, SQ_bk, SQ_ct, SQ_ex, addP_i, subP_i, negP_i, ltP_i, leP_i, gtP_i, geP_i, isP_n, isP_i, isP_b, isP_t, isP_l, isP_s, isNotP_n, isNotP_i, isNotP_b, isNotP_t, isNotP_l, isNotP_s, isP_bb, isNotP_bb, idxP_t, idxP_l, atI_0, atI_1, atI_2, sliceP_t, sliceP_l, lenP_t, lenP_l, lenP_f, tupleP_t, tupleP_l, listP_t, listP_l, minP_i, maxP_i, intP_i, intP_b, eqP_int, neP_int, List.set_cons_zero, List.set_cons_succ, List.length_cons, List.length_nil, List.map_cons, List.map_nil, List.length_map, List.cons_append, List.nil_append, List.append_nil, Option.map_some, Int.toNat_natCast, Int.reduceToNat, List.getElem?_map, List.getElem?_cons_zero, List.getElem?_cons_succ, List.replicate_zero, List.replicate_succ, Nat.sub_self, Nat.reduceSub, Nat.reduceAdd, Bool.not_true, Bool.not_false, List.take_zero, List.take_succ_cons, and_true, true_and, implies_true, decide_true, decide_false, Int.cast_ofNat_Int, Int.reduceEq, Int.reduceNe, Int.reduceLT, Int.reduceLE, $[$ts:term],*])
def unF : P → F3
  | .tup [.int a, .int b, .int c] => (a, b, c)
  | _ => (0, 0, 0)
theorem unF_fP (f : F3) : unF (fP f) = f := rfl
def srt (fs : List F3) : List F3 := ((fs.map fP).mergeSort (PySem.W.dataLe false P.py)).map unF
theorem srt_perm (fs : List F3) : (srt fs).Perm fs := by
  have h := (List.mergeSort_perm (fs.map fP) (PySem.W.dataLe false P.py)).map unF
  rw [List.map_map] at h
  have e : fs.map (unF ∘ fP) = fs := by
    have : unF ∘ fP = id := funext unF_fP
    rw [this, List.map_id]
  rw [e] at h
  exact h
theorem srt_map (fs : List F3) : (srt fs).map fP = (fs.map fP).mergeSort (PySem.W.dataLe false P.py) := by
  unfold srt
  rw [List.map_map]
  have h : ∀ x ∈ (fs.map fP).mergeSort (PySem.W.dataLe false P.py), (fP ∘ unF) x = x := fun x hx => by
    have := (List.mergeSort_perm (fs.map fP) (PySem.W.dataLe false P.py)).mem_iff.mp hx
    obtain ⟨f, _, rfl⟩ := List.mem_map.mp this
    show fP (unF (fP f)) = fP f
    rw [unF_fP]
  rw [List.map_congr_left h, List.map_id']
theorem f3_ok (xs : List F3) (h : xs.length ≤ 1000000) : sortOk (xs.map fP) = true := by
  unfold sortOk
  have h1 : lays 15 (xs.map fP) = true := by
    clear h
    induction xs with
    | nil => rfl
    | cons x xs ih => rw [List.map_cons, lays, ih]; rfl
  rw [h1, List.map_map]
  have h2 : ((xs.map (P.py ∘ fP)).all fun d => (xs.map (P.py ∘ fP)).all fun e => PySem.W.alike d e) = true := by
    rw [List.all_map, List.all_eq_true]
    intro x _
    rw [Function.comp, List.all_map, List.all_eq_true]
    intro y _
    simp [P.py, pys, PySem.W.alike, PySem.W.alikeAll]
  have h3 : (xs.map (P.py ∘ fP)).all tup1B = true := by
    rw [List.all_map, List.all_eq_true]
    intro x _
    rfl
  rw [h2, h3]
  simp [h]
theorem sorted_fs (fs : List F3) (h : fs.length ≤ 1000000) : sortedP [.lst (fs.map fP)] = some (.lst ((srt fs).map fP)) := by
  show (if sortOk (fs.map fP) = true then some (P.lst ((fs.map fP).mergeSort (PySem.W.dataLe false P.py))) else none) = _
  rw [if_pos (f3_ok fs h), srt_map]
theorem srt_len (fs : List F3) : (srt fs).length = fs.length := (srt_perm fs).length_eq
abbrev lkP (p : Nat × Nat) : P := .tup [.int (p.1 : Int), .int (p.2 : Int)]
theorem zip_links (g : List Nat) : zipL ((cutP g none (some (-1))).map fun i : Nat => P.int (i : Int)) ((g.drop 1).map fun i : Nat => P.int (i : Int)) = (links g).map lkP := by
  have h2 : cutP g none (some (-1)) = g.take (g.length - 1) := by
    unfold cutP
    rw [HT.sIx_none, List.drop_zero, Nat.sub_zero]
    congr 1
    show (if (-1 : Int) < 0 then (-1 + (g.length : Int)).toNat else min (-1 : Int).toNat g.length) = _
    rw [if_pos (by omega)]; omega
  rw [h2]
  clear h2
  induction g with
  | nil => rfl
  | cons a r ih =>
    cases r with
    | nil => rfl
    | cons b r =>
      rw [links, List.map_cons, ← ih]
      simp
noncomputable abbrev fmL (φ : Int → Int) (l m : Int) (fs : List F3) : List F3 := formG φ m (grps (cnB fs) (l + 1).toNat)
theorem fmL_len (φ : Int → Int) (l m : Int) (fs : List F3) : (fmL φ l m fs).length ≤ (l + 1).toNat := by
  have := form_len (R := cnB fs) (n := (l + 1).toNat) (φ := φ) (m := m) (cnB_eqv fs)
  show (formG φ m (grps (cnB fs) (l + 1).toNat)).length ≤ _
  omega
theorem form_eq (l m : Int) (fs : List F3) (φ : Int → Int) (hm : 0 < m) (hl : 0 ≤ l) (hl2 : l ≤ 1000) (hg : Gd l m fs) (hf : fs.length ≤ 1000) (hp : Pot m fs φ) : f_form [.p (sP l m fs)] [] = some (.ok (.p (sP l m (srt (fmL φ l m fs)))), []) := by
  have hn := need_ok l m fs hm hl hl2 hg hf ⟨φ, hp⟩
  have hgr := groups_eq l m fs hl hl2 hg hf
  have hlen := fmL_len φ l m fs
  refine fn_W (k := 5) ?_ rfl
  unfold b_form
  tbr_iter [hn, hgr]
  refine W_pre (σ := List F3) (grps (cnB fs) (l + 1).toNat) nsP (fun _ => [some (.p (sP l m fs)), some (.ref 0), none, none, none]) (fun s => [.pl (s.map fP)]) (fun d s => s = formG φ m d) [] rfl rfl rfl ?_ ?_
  · rintro d g w s hd rfl
    have hgm : g ∈ grps (cnB fs) (l + 1).toNat := by rw [hd]; simp
    obtain ⟨a, ha, rfl⟩ := List.mem_map.mp hgm
    have hcl := cls_len (R := cnB fs) (n := (l + 1).toNat) (a := a)
    have hzl := zip_links (cls (cnB fs) (l + 1).toNat a)
    have hbig : ∀ {t : List F3} {k : Nat}, t = formG φ m d ++ ((links (cls (cnB fs) (l + 1).toNat a)).take k).map (linkF φ m) → t.length ≤ (l + 1).toNat := by
      rintro t k rfl
      have e : fmL φ l m fs = formG φ m d ++ ((links (cls (cnB fs) (l + 1).toNat a)).map (linkF φ m) ++ formG φ m w) := by
        show formG φ m (grps (cnB fs) (l + 1).toNat) = _
        rw [hd]
        simp [formG]
      rw [e] at hlen
      simp only [List.length_append, List.length_map] at hlen ⊢
      have := List.length_take_le k (links (cls (cnB fs) (l + 1).toNat a))
      have h3 : ((links (cls (cnB fs) (l + 1).toNat a)).take k).length ≤ (links (cls (cnB fs) (l + 1).toNat a)).length := by rw [List.length_take]; omega
      omega
    tbr_iter [hzl]
    refine W_inv (σ := List F3) (links (cls (cnB fs) (l + 1).toNat a)) lkP (fun _ => [some (.p (sP l m fs)), some (.ref 0), some (.p (nsP (cls (cnB fs) (l + 1).toNat a))), none, none]) (fun s => [.pl (s.map fP)]) (fun i s => s = formG φ m d ++ ((links (cls (cnB fs) (l + 1).toNat a)).take i).map (linkF φ m)) (formG φ m d) rfl rfl (by simp) ?_ ?_
    · rintro i p s hpi hs
      have hs' := hs
      have hpm := List.mem_of_getElem? hpi
      have h1 := links_mem hpm
      have h3 := mem_cls.mp h1.1
      have h4 := mem_cls.mp h1.2
      have htl := hbig hs'
      have hc : Conn fs (p.1 : Int) (p.2 : Int) := (cnB_iff.mp h3.2).symm.trans (cnB_iff.mp h4.2)
      rcases told_eq l m fs (p.1 : Int) (p.2 : Int) φ hm hl hl2 hg hf (by omega) (by omega) hp with ⟨_, ht⟩ | ⟨h, _⟩
      · tbr_iter [ht]
        refine ⟨s ++ [linkF φ m p], by simp [linkF], ?_⟩
        rw [hs, take_snoc hpi, List.map_append, List.append_assoc]; rfl
      · exact (h hc).elim
    · rintro s hs
      rw [List.take_length] at hs
      tbr_iter []
      rw [hs]
      simp [formG]
  · rintro s rfl
    have hso := sorted_fs (fmL φ l m fs) (by omega)
    tbr_iter [hso]
end Z

end
section
namespace Z
open PySem L2
local macro_rules | `(tactic| tbr_iter [$ts,*]) => `(tactic| simp (disch := first | assumption | omega | decide | (simp only [List.length_map, List.length_cons, List.length_nil, List.length_append, List.length_range, List.length_take, List.length_drop]; omega)) only [ev_var0s, ev_varS, ev_c, dr_p, dr_0, dr_S, pu_pl, pu_pd, pu_pdT, retO_s, ev_mv, fMv_ref, fMvx_s, ev_p1, fP1_ok, fP1d_s, ev_p2, fP2a_ok, fP2a_exc, fP2b_ok, fP2b_exc, fP2c_s, evs_nil, evs_cons, fEa_ok, fEa_exc, fEb_ok, fEb_exc, drs_nil, drs_cons, fDc_s, ev_pn, fPn_ok, fPn_exc, fPd_s, purs_nil, purs_cons, ev_tup, fTup_ok, fTup_exc, fTd_s, ev_lst, fLst_ok, fLst_exc, fLd_s, ev_newL, fNewL_ok, fNewL_exc, fNd_s, ev_newD, ev_and, fAnd_t, fAnd_f, fAnd_exc, ev_or, fOr_t, fOr_f, fOr_exc, ev_not, fNot_b, fNot_exc, ev_if, fIf_t, fIf_f, fIf_exc, ev_tB, ftB_b, ftB_exc, ev_tTr, ftT_ok, ftT_exc, ftTd_s, tr_non, tr_bl, tr_int, tr_tup, tr_lst, tr_0, tr_S, otr_pl, ev_tand, ftAnd_t, ftAnd_f, ftAnd_exc, ev_tor, ftOr_t, ftOr_f, ftOr_exc, ev_tnot, ftNot_b, ftNot_exc, ev_tyes, ev_sl, fSa_ok, fSa_exc, fSb_ok, fSc_ok, fSd_s, evO_n, evO_s, fO_i, ev_ch, fCa_ok, fCb_ok, fCc_t, fCc_f, ev_call, fCall_ok, fCall_exc, fRp_ok, fRp_exc, cv_1, cv_2, cv_3, cv_4, cv_5, fRt_ok, ev_lc, it_seq, fSeq_t, fSeq_l, it_en, fEn_t, fEn_l, it_r1, fR1_ok, it_r2, fR2a_ok, fR2b_ok, it_z, fZa_ok, fZb_t, fZb_l, ev_me, fMa_ok, fMb_t, fMc_ok, fMc_exc, la_0, la_r0, la_S, fPush_s, app_S, ext_S, W_seq, W_pass, Wn_cons, Wn_nil, W_set, wSet_ok, wSet_exc, W_expr, wEx_ok, wEx_exc, W_ret, wRet_ok, wRet_exc, W_if, wIf_t, wIf_f, wIf_exc, W_brk, W_cont, W_raise, W_asg, wAsg_ok, wAsg_exc, wA_s, asg_nm, asg_tp, asg_tpl, asgs_nil, asgs_cons, fAs_s, W_par2, wPa_ok, wPa_exc, wPb_ok, wPb_exc, clr_nil, clr_cons, W_for, wFor_ok, wFor_exc, IQ_nx, IQ_ct, IQ_bk, IQ_rt, IQ_ex, wB_s, lcE1_s, lcE2_t, lcE2_f, lcE3_s, fLm_s, fLt_s, fLc_ok, o_mod, o_fdiv, o_mulR, o_mulL, o_addT, o_addL, o_sumT, o_sumL, o_app, o_ext, cut_map, cut_0j, cut_i, atI_map, atI_i, all_b, any_b, is_t, is_tl, is_ti, is_tb, is_tn, is_ts, is_i, is_ib, is_it, is_il, is_in, is_is, is_b, is_bi, is_bt, is_bl, is_bn, is_bs, tk_map, dp_map, app_map, neP_nn, neP_in, neP_ni, eqP_nn, eqP_in, eqP_ni, neP_bb, eqP_bb, ssm_fold, in_bl, ev_ixo, fIxa_ok, fIxb_bl, fIxc_s, ev_notT, fNotT_ok, fNotTd_s, W_par3, wP3a_ok, wP3b_ok, wP3c_ok, ev_rg1, fG1_ok, ev_rg2, fG2a_ok, fG2b_ok, ev_lstRg, ev_tupRg, ev_newRg, fLR_ok, fTR_ok, fNR_ok, ev_newOf, fNO_ok, fNOd_t, fNOd_l, setS_0, setS_S, W_sub, wS1_ok, wS2_ok, wS3_ok, wS4_s, TQ_nx, TQ_rt, TQ_ex, wTr_hit, wTr_miss, wTr_nil, rv_t, rv_l, rv_map, notIn_key, in_key, SQ_nx, SQ_rt, SQ_bk, SQ_ct, SQ_ex, addP_i, subP_i, negP_i, ltP_i, leP_i, gtP_i, geP_i, isP_n, isP_i, isP_b, isP_t, isP_l, isP_s, isNotP_n, isNotP_i, isNotP_b, isNotP_t, isNotP_l, isNotP_s, isP_bb, isNotP_bb, idxP_t, idxP_l, atI_0, atI_1, atI_2, sliceP_t, sliceP_l, lenP_t, lenP_l, lenP_f, tupleP_t, tupleP_l, listP_t, listP_l, minP_i, maxP_i, intP_i, intP_b, eqP_int, neP_int, List.set_cons_zero, List.set_cons_succ, List.length_cons, List.length_nil, List.map_cons, List.map_nil, List.length_map, List.cons_append, List.nil_append, List.append_nil, Option.map_some, Int.toNat_natCast, Int.reduceToNat, List.getElem?_map, List.getElem?_cons_zero, List.getElem?_cons_succ, List.replicate_zero, List.replicate_succ, Nat.sub_self, Nat.reduceSub, Nat.reduceAdd, Bool.not_true, Bool.not_false, List.take_zero, List.take_succ_cons, and_true, true_and, implies_true, decide_true, decide_false, Int.cast_ofNat_Int, Int.reduceEq, Int.reduceNe, Int.reduceLT, Int.reduceLE, $[$ts:term],*])
theorem base_join {l m : Int} {d : List F3} {β : Int → Int} (hβ : ∀ x y, 0 ≤ x → x ≤ l → 0 ≤ y → y ≤ l → (β x = β y ↔ Conn d x y)) {f : F3} (hf : 0 ≤ f.1 ∧ f.1 < f.2.1 ∧ f.2.1 ≤ l) :
    ∀ x y, 0 ≤ x → x ≤ l → 0 ≤ y → y ≤ l → ((if β x = β f.2.1 then β f.1 else β x) = (if β y = β f.2.1 then β f.1 else β y) ↔ Conn (d ++ [f]) x y) := by
  intro x y x0 x1 y0 y1
  have cx := hβ x f.1 x0 x1 (by omega) (by omega)
  have cx2 := hβ x f.2.1 x0 x1 (by omega) (by omega)
  have cy := hβ y f.1 y0 y1 (by omega) (by omega)
  have cy2 := hβ y f.2.1 y0 y1 (by omega) (by omega)
  have cxy := hβ x y x0 x1 y0 y1
  rw [conn_snoc]
  by_cases hx : β x = β f.2.1 <;> by_cases hy : β y = β f.2.1
  · simp only [hx, hy, if_true, true_iff]
    exact .inl (cxy.mp (hx.trans hy.symm))
  · simp only [hx, hy, if_true, if_false]
    constructor
    · intro z
      exact .inr (.inr ⟨cx2.mp hx, (cy.mp z.symm).symm⟩)
    · rintro (q | ⟨q1, q2⟩ | ⟨q1, q2⟩)
      · exact absurd ((cxy.mpr q).symm.trans hx) hy
      · exact absurd (cy2.mpr q2.symm) hy
      · exact (cy.mpr q2.symm).symm
  · simp only [hx, hy, if_true, if_false]
    constructor
    · intro z
      exact .inr (.inl ⟨cx.mp z, (cy2.mp hy).symm⟩)
    · rintro (q | ⟨q1, q2⟩ | ⟨q1, q2⟩)
      · exact absurd ((cxy.mpr q).trans hy) hx
      · exact cx.mpr q1
      · exact absurd (cx2.mpr q1) hx
  · simp only [hx, hy, if_false]
    rw [cxy]
    constructor
    · exact .inl
    · rintro (q | ⟨q1, q2⟩ | ⟨q1, q2⟩)
      · exact q
      · exact absurd (cy2.mpr q2.symm) hy
      · exact absurd (cx2.mpr q1) hx
theorem l_groups_eq (l m : Int) (fs : List F3) (hl : 0 ≤ l) (hl2 : l ≤ 1000) (hg : Gd l m fs) (hf : fs.length ≤ 1000) : f_l_groups [.p (sP l m fs)] [] = some (.ok (.p (grP (grps (cnB fs) (l + 1).toNat))), []) := by
  have hrm := rngL_mk l
  refine fn_W (k := 11) ?_ rfl
  unfold b_l_groups
  tbr_iter [hrm]
  refine W_pre (σ := Int → Int) fs fP (fun β => [some (.p (sP l m fs)), some (.p (.lst (mkL l β))), none, none, none, none, none, none, none, none, none]) (fun _ => []) (fun d β => ∀ x y, 0 ≤ x → x ≤ l → 0 ≤ y → y ≤ l → (β x = β y ↔ Conn d x y)) (fun x => x) rfl rfl (fun x y _ _ _ _ => ⟨fun h => (show x = y from h) ▸ Conn.refl _ _, conn_nil⟩) ?_ ?_
  · rintro d f w β hd hβ
    have g := hg f (by rw [hd]; simp)
    have a1 : (mkL l β)[f.1.toNat]? = some (.int (β f.1)) := mkL_get (by omega) (by omega)
    have a2 : (mkL l β)[f.2.1.toNat]? = some (.int (β f.2.1)) := mkL_get (by omega) (by omega)
    tbr_iter [a2]
    generalize hL : lcL _ _ _ _ _ _ _ = L
    have hL2 : lcL _ _ _ _ ((List.range (l + 1).toNat).map fun i : Nat => P.int (β (i : Int))) [] _ = L := hL
    obtain rfl := lcM hL2 (fun i : Nat => P.int (if β (i : Int) = β f.2.1 then β f.1 else β (i : Int))) (by
      intro i _
      by_cases h : β (i : Int) = β f.2.1
      · tbr_iter [h, a1]; simp
      · tbr_iter [h, a1]; simp) (by simp; omega)
    tbr_iter []
    exact ⟨fun x => if β x = β f.2.1 then β f.1 else β x, rfl, base_join (m := m) hβ ⟨g.1, g.2.1, g.2.2.1⟩⟩
  · rintro β hβ
    tbr_iter []
    refine W_rng (σ := List (List Nat)) 0 (l + 1).toNat (fun _ => [some (.p (sP l m fs)), some (.p (.lst (mkL l β))), none, none, none, none, some (.ref 0), none, none, none, none]) (fun s => [.pl (s.map nsP)]) (fun i s => s = (reps (cnB fs) i).map (cls (cnB fs) (l + 1).toNat)) [] rfl rfl (by simp [reps]) ?_ ?_
    · rintro i s hi hs
      have e0 : (0 : Int) + (i : Int) = (i : Int) := by omega
      have ai : (mkL l β)[i]? = some (.int (β (i : Int))) := mkL_getN (by omega)
      tbr_iter [e0]
      generalize hL : lcL _ _ _ _ _ _ _ = L
      obtain rfl := lcF hL (fun o : Nat => decide (β (o : Int) = β (i : Int))) (fun o : Nat => .int (o : Int)) (by
        intro o ho
        have ho := List.mem_range.mp ho
        have ao : (mkL l β)[o]? = some (.int (β (o : Int))) := mkL_getN (by omega)
        tbr_iter [Int.zero_add, ao, ai])  (by simp; omega)
      have E := cnB_eqv fs
      have hcl : ((List.range (l + 1).toNat).filter fun o : Nat => decide (β (o : Int) = β (i : Int))) = cls (cnB fs) (l + 1).toNat i := by
        unfold cls
        refine List.filter_congr fun o ho => ?_
        have ho := List.mem_range.mp ho
        rw [Bool.eq_iff_iff, cnB_iff, decide_eq_true_eq, hβ _ _ (by omega) (by omega) (by omega) (by omega)]
        exact ⟨Conn.symm, Conn.symm⟩
      rw [hcl]
      have hcl2 := cls_len (R := cnB fs) (n := (l + 1).toNat) (a := i)
      have hsl : s.length ≤ i := by rw [hs, List.length_map]; exact reps_len
      have hii : i ∈ cls (cnB fs) (l + 1).toNat i := mem_cls.mpr ⟨hi, E.refl i⟩
      by_cases hr : ∃ a ∈ reps (cnB fs) i, cnB fs a i = true
      · obtain ⟨a, ha, hr⟩ := hr
        have hin : cls (cnB fs) (l + 1).toNat i ∈ s := by
          rw [hs]
          refine List.mem_map.mpr ⟨a, ha, ?_⟩
          unfold cls
          refine List.filter_congr fun o _ => ?_
          rw [Bool.eq_iff_iff]
          exact ⟨fun z => E.trans _ _ _ (E.symm _ _ hr) z, fun z => E.trans _ _ _ hr z⟩
        have hno : notInP (.tup ((cls (cnB fs) (l + 1).toNat i).map fun i : Nat => P.int (i : Int))) (.lst (s.map nsP)) = some (.bl false) := Enc.nat.tup.notLf (by omega) hin
        tbr_iter [hno]
        exact ⟨s, rfl, by rw [reps_old E ha hr]; exact hs⟩
      · have hr : ∀ a ∈ reps (cnB fs) i, cnB fs a i = false := fun a ha => by
          cases q : cnB fs a i with
          | false => rfl
          | true => exact (hr ⟨a, ha, q⟩).elim
        have hin : ¬ cls (cnB fs) (l + 1).toNat i ∈ s := by
          rw [hs]
          intro z
          obtain ⟨a, ha, e⟩ := List.mem_map.mp z
          rw [← e] at hii
          have := hr a ha
          rw [(mem_cls.mp hii).2] at this; cases this
        have hno : notInP (.tup ((cls (cnB fs) (l + 1).toNat i).map fun i : Nat => P.int (i : Int))) (.lst (s.map nsP)) = some (.bl true) := Enc.nat.tup.notLt (by omega) hin
        tbr_iter [hno]
        exact ⟨s ++ [cls (cnB fs) (l + 1).toNat i], by simp, by rw [(reps_new E hr).1, List.map_append, ← hs]; rfl⟩
    · rintro s rfl
      have hre := reps_len (R := cnB fs) (n := (l + 1).toNat)
      tbr_iter []
      rfl
end Z

end
section
namespace Z
open PySem L2
def b_free_places : SM :=
    sRet (mPn tupleP [mLc [1] (.nm 1) (iSeq (mSl (mCall f_groups [mVar 0]) (some (mC (.int 1))) none)) (tYesM) (mP2 subP (mP2 idxP (mVar 1) (mC (.int 0))) (mC (.int 1)))])
def f_free_places : Fn := runF 2 (b_free_places)
def b_count : SM :=
    sSeq (sIf (tB (mP2 isNotP (mCall f_first_clash [mVar 0]) (mC .non))) (sRet (mC (.int 0))) (sPass))
    (sSeq (sSet 1 (mC (.int 1)))
    (sSeq (sFor (.nm 2) (iSeq (mCall f_free_places [mVar 0])) (sSet 1 (mP2 mulP (mVar 1) (mP2 idxP (mVar 0) (mC (.int 1))))) [2])
    (sRet (mVar 1))))
def f_count : Fn := runF 3 (b_count)
end Z

end
section
namespace Z
open PySem L2
local macro_rules | `(tactic| tbr_iter [$ts,*]) => `(tactic| simp (disch := first | assumption | omega | decide | (simp only [List.length_map, List.length_cons, List.length_nil, List.length_append, List.length_range, List.length_take, List.length_drop]; omega)) only [ev_var0s, ev_varS, ev_c, dr_p, dr_0, dr_S, pu_pl, pu_pd, pu_pdT, retO_s, ev_mv, fMv_ref, fMvx_s, ev_p1, fP1_ok, fP1d_s, ev_p2, fP2a_ok, fP2a_exc, fP2b_ok, fP2b_exc, fP2c_s, evs_nil, evs_cons, fEa_ok, fEa_exc, fEb_ok, fEb_exc, drs_nil, drs_cons, fDc_s, ev_pn, fPn_ok, fPn_exc, fPd_s, purs_nil, purs_cons, ev_tup, fTup_ok, fTup_exc, fTd_s, ev_lst, fLst_ok, fLst_exc, fLd_s, ev_newL, fNewL_ok, fNewL_exc, fNd_s, ev_newD, ev_and, fAnd_t, fAnd_f, fAnd_exc, ev_or, fOr_t, fOr_f, fOr_exc, ev_not, fNot_b, fNot_exc, ev_if, fIf_t, fIf_f, fIf_exc, ev_tB, ftB_b, ftB_exc, ev_tTr, ftT_ok, ftT_exc, ftTd_s, tr_non, tr_bl, tr_int, tr_tup, tr_lst, tr_0, tr_S, otr_pl, ev_tand, ftAnd_t, ftAnd_f, ftAnd_exc, ev_tor, ftOr_t, ftOr_f, ftOr_exc, ev_tnot, ftNot_b, ftNot_exc, ev_tyes, ev_sl, fSa_ok, fSa_exc, fSb_ok, fSc_ok, fSd_s, evO_n, evO_s, fO_i, ev_ch, fCa_ok, fCb_ok, fCc_t, fCc_f, ev_call, fCall_ok, fCall_exc, fRp_ok, fRp_exc, cv_1, cv_2, cv_3, cv_4, cv_5, fRt_ok, ev_lc, it_seq, fSeq_t, fSeq_l, it_en, fEn_t, fEn_l, it_r1, fR1_ok, it_r2, fR2a_ok, fR2b_ok, it_z, fZa_ok, fZb_t, fZb_l, ev_me, fMa_ok, fMb_t, fMc_ok, fMc_exc, la_0, la_r0, la_S, fPush_s, app_S, ext_S, W_seq, W_pass, Wn_cons, Wn_nil, W_set, wSet_ok, wSet_exc, W_expr, wEx_ok, wEx_exc, W_ret, wRet_ok, wRet_exc, W_if, wIf_t, wIf_f, wIf_exc, W_brk, W_cont, W_raise, W_asg, wAsg_ok, wAsg_exc, wA_s, asg_nm, asg_tp, asg_tpl, asgs_nil, asgs_cons, fAs_s, W_par2, wPa_ok, wPa_exc, wPb_ok, wPb_exc, clr_nil, clr_cons, W_for, wFor_ok, wFor_exc, IQ_nx, IQ_ct, IQ_bk, IQ_rt, IQ_ex, wB_s, lcE1_s, lcE2_t, lcE2_f, lcE3_s, fLm_s, fLt_s, fLc_ok, o_mod, o_fdiv, o_mulR, o_mulL, o_addT, o_addL, o_sumT, o_sumL, o_app, o_ext, cut_map, cut_0j, cut_i, atI_map, atI_i, all_b, any_b, is_t, is_tl, is_ti, is_tb, is_tn, is_ts, is_i, is_ib, is_it, is_il, is_in, is_is, is_b, is_bi, is_bt, is_bl, is_bn, is_bs, tk_map, dp_map, app_map, neP_nn, neP_in, neP_ni, eqP_nn, eqP_in, eqP_ni, neP_bb, eqP_bb, ssm_fold, in_bl, ev_ixo, fIxa_ok, fIxb_bl, fIxc_s, ev_notT, fNotT_ok, fNotTd_s, W_par3, wP3a_ok, wP3b_ok, wP3c_ok, ev_rg1, fG1_ok, ev_rg2, fG2a_ok, fG2b_ok, ev_lstRg, ev_tupRg, ev_newRg, fLR_ok, fTR_ok, fNR_ok, ev_newOf, fNO_ok, fNOd_t, fNOd_l, setS_0, setS_S, W_sub, wS1_ok, wS2_ok, wS3_ok, wS4_s, TQ_nx, TQ_rt, TQ_ex, wTr_hit, wTr_miss, wTr_nil, rv_t, rv_l, rv_map, notIn_key, in_key, SQ_nx, SQ_rt, SQ_bk, SQ_ct, SQ_ex, addP_i, subP_i, negP_i, ltP_i, leP_i, gtP_i, geP_i, isP_n, isP_i, isP_b, isP_t, isP_l, isP_s, isNotP_n, isNotP_i, isNotP_b, isNotP_t, isNotP_l, isNotP_s, isP_bb, isNotP_bb, idxP_t, idxP_l, atI_0, atI_1, atI_2, sliceP_t, sliceP_l, lenP_t, lenP_l, lenP_f, tupleP_t, tupleP_l, listP_t, listP_l, minP_i, maxP_i, intP_i, intP_b, eqP_int, neP_int, List.set_cons_zero, List.set_cons_succ, List.length_cons, List.length_nil, List.map_cons, List.map_nil, List.length_map, List.cons_append, List.nil_append, List.append_nil, Option.map_some, Int.toNat_natCast, Int.reduceToNat, List.getElem?_map, List.getElem?_cons_zero, List.getElem?_cons_succ, List.replicate_zero, List.replicate_succ, Nat.sub_self, Nat.reduceSub, Nat.reduceAdd, Bool.not_true, Bool.not_false, List.take_zero, List.take_succ_cons, and_true, true_and, implies_true, decide_true, decide_false, Int.cast_ofNat_Int, Int.reduceEq, Int.reduceNe, Int.reduceLT, Int.reduceLE, $[$ts:term],*])
theorem grps_tail_head {R : Nat → Nat → Bool} {n : Nat} (E : Eqv R) : ∀ g ∈ (grps R n).drop 1, ∃ a : Nat, g[0]? = some a := fun g hg => by
  obtain ⟨a, ha, rfl⟩ := List.mem_map.mp (List.mem_of_mem_drop hg)
  exact ⟨a, cls_head E ha⟩
theorem free_eq (l m : Int) (fs : List F3) (hl : 0 ≤ l) (hl2 : l ≤ 1000) (hg : Gd l m fs) (hf : fs.length ≤ 1000) : f_free_places [.p (sP l m fs)] [] = some (.ok (.p (.tup (((grps (cnB fs) (l + 1).toNat).drop 1).map fun g => P.int ((g.headD 0 : Nat) - 1 : Int)))), []) := by
  have hgr := groups_eq l m fs hl hl2 hg hf
  have hle : (grps (cnB fs) (l + 1).toNat).length ≤ (l + 1).toNat := by rw [grps_len]; exact reps_len
  refine fn_W (k := 2) ?_ rfl
  unfold b_free_places
  tbr_iter [hgr]
  generalize hL : lcL _ _ _ _ _ _ _ = L
  obtain rfl := lcM hL (fun g : List Nat => P.int ((g.headD 0 : Nat) - 1 : Int)) (by
    intro g hg
    obtain ⟨a, ha⟩ := grps_tail_head (cnB_eqv fs) g hg
    have hh : g.headD 0 = a := by
      cases g with
      | nil => simp at ha
      | cons x xs => simpa using ha
    rw [hh]
    tbr_iter [ha]) (by rw [List.length_drop]; omega)
  tbr_iter []
theorem count_eq (l m : Int) (fs : List F3) (hm : 0 < m) (hm2 : m ≤ 1000000) (hl : 0 ≤ l) (hl2 : l ≤ 1000) (hg : Gd l m fs) (hf : fs.length ≤ 1000) (hc : Cons m fs) : f_count [.p (sP l m fs)] [] = some (.ok (.p (.int (m ^ (rc fs (l + 1).toNat - 1)))), []) := by
  obtain ⟨r, hr, e⟩ := first_clash_eq l m fs hm hl hl2 hg hf
  obtain rfl := hr.none_iff.mpr hc
  have hfr := free_eq l m fs hl hl2 hg hf
  refine fn_W (k := 3) ?_ rfl
  unfold b_count
  tbr_iter [e, hfr]
  refine W_inv (σ := Int) ((grps (cnB fs) (l + 1).toNat).drop 1) (fun g => P.int ((g.headD 0 : Nat) - 1 : Int)) (fun s => [some (.p (sP l m fs)), some (.p (.int s)), none]) (fun _ => []) (fun i s => s = m ^ i) 1 rfl rfl (by simp) ?_ ?_
  · rintro i g s hgi rfl
    tbr_iter []
    exact ⟨_, rfl, (Int.pow_succ m i).symm⟩
  · rintro s rfl
    tbr_iter []
    rw [List.length_drop, grps_len]; rfl
theorem count_no (l m : Int) (fs : List F3) (hm : 0 < m) (hl : 0 ≤ l) (hl2 : l ≤ 1000) (hg : Gd l m fs) (hf : fs.length ≤ 1000) (hc : ¬ Cons m fs) : f_count [.p (sP l m fs)] [] = some (.ok (.p (.int 0)), []) := by
  obtain ⟨r, hr, e⟩ := first_clash_eq l m fs hm hl hl2 hg hf
  obtain ⟨j, rfl⟩ : ∃ j, r = some j := by
    cases r with
    | none => exact (hc (hr.none_iff.mp rfl)).elim
    | some j => exact ⟨j, rfl⟩
  refine fn_W (k := 3) ?_ rfl
  unfold b_count
  tbr_iter [e]
/-! ### changed sheets -/
abbrev lowF (b : Int) (f : F3) : F3 := (f.1, f.2.1, f.2.2 % b)
abbrev sclF (m t : Int) (f : F3) : F3 := (f.1, f.2.1, f.2.2 * t % m)
abbrev trnF (l : Int) (f : F3) : F3 := (l - f.2.1, l - f.1, f.2.2)
theorem conn_map {fs : List F3} {h : F3 → F3} (h1 : ∀ f, (h f).1 = f.1) (h2 : ∀ f, (h f).2.1 = f.2.1) (a b : Int) : Conn (fs.map h) a b ↔ Conn fs a b := by
  constructor
  · refine Conn.rests fun f hf => ?_
    obtain ⟨g, hg, rfl⟩ := List.mem_map.mp hf
    exact ⟨g, hg, (h1 g).symm, (h2 g).symm⟩
  · exact Conn.rests fun f hf => ⟨h f, List.mem_map.mpr ⟨f, hf, rfl⟩, h1 f, h2 f⟩
theorem gd_low {l m b : Int} {fs : List F3} (hb : 0 < b) (hg : Gd l m fs) : Gd l b (fs.map (lowF b)) := fun f hf => by
  obtain ⟨g, h, rfl⟩ := List.mem_map.mp hf
  have := hg g h
  exact ⟨this.1, this.2.1, this.2.2.1, Int.emod_nonneg _ (by omega), Int.emod_lt_of_pos _ hb⟩
theorem gd_scl {l m t : Int} {fs : List F3} (hm : 0 < m) (hg : Gd l m fs) : Gd l m (fs.map (sclF m t)) := fun f hf => by
  obtain ⟨g, h, rfl⟩ := List.mem_map.mp hf
  have := hg g h
  exact ⟨this.1, this.2.1, this.2.2.1, Int.emod_nonneg _ (by omega), Int.emod_lt_of_pos _ hm⟩
theorem gd_trn {l m : Int} {fs : List F3} (hg : Gd l m fs) : Gd l m (fs.map (trnF l)) := fun f hf => by
  obtain ⟨g, h, rfl⟩ := List.mem_map.mp hf
  have := hg g h
  exact ⟨by show 0 ≤ l - g.2.1; omega, by show l - g.2.1 < l - g.1; omega, by show l - g.1 ≤ l; omega, this.2.2.2.1, this.2.2.2.2⟩
theorem pot_low {m b : Int} {fs : List F3} {φ : Int → Int} (hd : m % b = 0) (hp : Pot m fs φ) : Pot b (fs.map (lowF b)) φ := fun f hf => by
  obtain ⟨g, h, rfl⟩ := List.mem_map.mp hf
  have h1 := Int.dvd_trans (Int.dvd_of_emod_eq_zero hd) (Int.dvd_of_emod_eq_zero (hp g h))
  have h2 : b ∣ g.2.2 - g.2.2 % b := Int.dvd_self_sub_emod
  have := Int.dvd_add h1 h2
  refine Int.emod_eq_zero_of_dvd ?_
  show b ∣ φ g.2.1 - φ g.1 - g.2.2 % b
  rwa [show φ g.2.1 - φ g.1 - g.2.2 + (g.2.2 - g.2.2 % b) = φ g.2.1 - φ g.1 - g.2.2 % b by omega] at this
theorem pot_scl {m t : Int} {fs : List F3} {φ : Int → Int} (hp : Pot m fs φ) : Pot m (fs.map (sclF m t)) (fun x => φ x * t) := fun f hf => by
  obtain ⟨g, h, rfl⟩ := List.mem_map.mp hf
  have h1 : m ∣ (φ g.2.1 - φ g.1 - g.2.2) * t := Int.dvd_mul_of_dvd_left (Int.dvd_of_emod_eq_zero (hp g h))
  have h2 : m ∣ g.2.2 * t - g.2.2 * t % m := Int.dvd_self_sub_emod
  have := Int.dvd_add h1 h2
  refine Int.emod_eq_zero_of_dvd ?_
  show m ∣ φ g.2.1 * t - φ g.1 * t - g.2.2 * t % m
  rw [Int.sub_mul, Int.sub_mul] at this
  rwa [show φ g.2.1 * t - φ g.1 * t - g.2.2 * t + (g.2.2 * t - g.2.2 * t % m) = φ g.2.1 * t - φ g.1 * t - g.2.2 * t % m by omega] at this
theorem pot_trn {l m : Int} {fs : List F3} {φ : Int → Int} (hp : Pot m fs φ) : Pot m (fs.map (trnF l)) (fun x => 0 - φ (l - x)) := fun f hf => by
  obtain ⟨g, h, rfl⟩ := List.mem_map.mp hf
  have := hp g h
  show (0 - φ (l - (l - g.1)) - (0 - φ (l - (l - g.2.1))) - g.2.2) % m = 0
  rw [show l - (l - g.1) = g.1 by omega, show l - (l - g.2.1) = g.2.1 by omega, show 0 - φ g.1 - (0 - φ g.2.1) - g.2.2 = φ g.2.1 - φ g.1 - g.2.2 by omega]
  exact this
theorem conn_trn1 {l : Int} {fs : List F3} {a b : Int} (h : Conn fs a b) : Conn (fs.map (trnF l)) (l - a) (l - b) := by
  refine Conn.ind (R := fun x => Conn (fs.map (trnF l)) (l - a) (l - x)) (fun f hf => ?_) h (Conn.refl _ _)
  have hc : Conn (fs.map (trnF l)) (l - f.2.1) (l - f.1) := Conn.fact (f := trnF l f) (List.mem_map.mpr ⟨f, hf, rfl⟩)
  exact ⟨fun q => q.trans hc.symm, fun q => q.trans hc⟩
theorem trn_trn (l : Int) (fs : List F3) : (fs.map (trnF l)).map (trnF l) = fs := by
  rw [List.map_map]
  have : ∀ f : F3, (trnF l ∘ trnF l) f = f := fun f => by
    obtain ⟨a, b, c⟩ := f
    show (l - (l - a), l - (l - b), c) = (a, b, c)
    rw [show l - (l - a) = a by omega, show l - (l - b) = b by omega]
  rw [List.map_congr_left fun f _ => this f, List.map_id']
theorem conn_trn {l : Int} {fs : List F3} (a b : Int) : Conn (fs.map (trnF l)) (l - a) (l - b) ↔ Conn fs a b := by
  refine ⟨fun h => ?_, conn_trn1⟩
  have := conn_trn1 (l := l) h
  rwa [trn_trn, show l - (l - a) = a by omega, show l - (l - b) = b by omega] at this
theorem rc_trn {l m : Int} : ∀ (k : Nat) (fs : List F3), fs.length = k → Gd l m fs → rc (fs.map (trnF l)) (l + 1).toNat = rc fs (l + 1).toNat
  | 0, fs, hk, hg => by
    obtain rfl := List.length_eq_zero_iff.mp hk
    rfl
  | k + 1, fs, hk, hg => by
    have hne : fs ≠ [] := by rintro rfl; simp at hk
    rw [← List.dropLast_concat_getLast hne] at hg ⊢
    have hg1 : Gd l m fs.dropLast := fun f hf => hg f (by simp [hf])
    have ih := rc_trn (l := l) (m := m) k fs.dropLast (by simp [hk]) hg1
    have hf := hg (fs.getLast hne) (by simp)
    rw [List.map_append, List.map_singleton]
    by_cases hc : Conn fs.dropLast (fs.getLast hne).1 (fs.getLast hne).2.1
    · rw [rc_same hc, rc_same (f := trnF l (fs.getLast hne)) ((conn_trn _ _).mpr hc.symm), ih]
    · have h1 := rc_join (m := m) (l := l) (f := fs.getLast hne) ⟨hf.1, hf.2.1, hf.2.2.1⟩ hc
      have h2 := rc_join (m := m) (l := l) (fs := fs.dropLast.map (trnF l)) (f := trnF l (fs.getLast hne)) ⟨by show 0 ≤ l - (fs.getLast hne).2.1; omega, by show l - (fs.getLast hne).2.1 < l - (fs.getLast hne).1; omega, by show l - (fs.getLast hne).1 ≤ l; omega⟩ (fun q => hc ((conn_trn _ _).mp q).symm)
      omega
theorem rc_congr {fs gs : List F3} {n : Nat} (h : ∀ a b, Conn fs a b ↔ Conn gs a b) : rc fs n = rc gs n := by
  unfold rc; rw [cnB_congr h]
end Z

end
section
namespace Z
open PySem L2
local macro_rules | `(tactic| tbr_iter [$ts,*]) => `(tactic| simp (disch := first | assumption | omega | decide | (simp only [List.length_map, List.length_cons, List.length_nil, List.length_append, List.length_range, List.length_take, List.length_drop]; omega)) only [ev_var0s, ev_varS, ev_c, dr_p, dr_0, dr_S, pu_pl, pu_pd, pu_pdT, retO_s, ev_mv, fMv_ref, fMvx_s, ev_p1, fP1_ok, fP1d_s, ev_p2, fP2a_ok, fP2a_exc, fP2b_ok, fP2b_exc, fP2c_s, evs_nil, evs_cons, fEa_ok, fEa_exc, fEb_ok, fEb_exc, drs_nil, drs_cons, fDc_s, ev_pn, fPn_ok, fPn_exc, fPd_s, purs_nil, purs_cons, ev_tup, fTup_ok, fTup_exc, fTd_s, ev_lst, fLst_ok, fLst_exc, fLd_s, ev_newL, fNewL_ok, fNewL_exc, fNd_s, ev_newD, ev_and, fAnd_t, fAnd_f, fAnd_exc, ev_or, fOr_t, fOr_f, fOr_exc, ev_not, fNot_b, fNot_exc, ev_if, fIf_t, fIf_f, fIf_exc, ev_tB, ftB_b, ftB_exc, ev_tTr, ftT_ok, ftT_exc, ftTd_s, tr_non, tr_bl, tr_int, tr_tup, tr_lst, tr_0, tr_S, otr_pl, ev_tand, ftAnd_t, ftAnd_f, ftAnd_exc, ev_tor, ftOr_t, ftOr_f, ftOr_exc, ev_tnot, ftNot_b, ftNot_exc, ev_tyes, ev_sl, fSa_ok, fSa_exc, fSb_ok, fSc_ok, fSd_s, evO_n, evO_s, fO_i, ev_ch, fCa_ok, fCb_ok, fCc_t, fCc_f, ev_call, fCall_ok, fCall_exc, fRp_ok, fRp_exc, cv_1, cv_2, cv_3, cv_4, cv_5, fRt_ok, ev_lc, it_seq, fSeq_t, fSeq_l, it_en, fEn_t, fEn_l, it_r1, fR1_ok, it_r2, fR2a_ok, fR2b_ok, it_z, fZa_ok, fZb_t, fZb_l, ev_me, fMa_ok, fMb_t, fMc_ok, fMc_exc, la_0, la_r0, la_S, fPush_s, app_S, ext_S, W_seq, W_pass, Wn_cons, Wn_nil, W_set, wSet_ok, wSet_exc, W_expr, wEx_ok, wEx_exc, W_ret, wRet_ok, wRet_exc, W_if, wIf_t, wIf_f, wIf_exc, W_brk, W_cont, W_raise, W_asg, wAsg_ok, wAsg_exc, wA_s, asg_nm, asg_tp, asg_tpl, asgs_nil, asgs_cons, fAs_s, W_par2, wPa_ok, wPa_exc, wPb_ok, wPb_exc, clr_nil, clr_cons, W_for, wFor_ok, wFor_exc, IQ_nx, IQ_ct, IQ_bk, IQ_rt, IQ_ex, wB_s, lcE1_s, lcE2_t, lcE2_f, lcE3_s, fLm_s, fLt_s, fLc_ok, o_mod, o_fdiv, o_mulR, o_mulL, o_addT, o_addL, o_sumT, o_sumL, o_app, o_ext, cut_map, cut_0j, cut_i, atI_map, atI_i, all_b, any_b, is_t, is_tl, is_ti, is_tb, is_tn, is_ts, is_i, is_ib, is_it, is_il, is_in, is_is, is_b, is_bi, is_bt, is_bl, is_bn, is_bs, tk_map, dp_map, app_map, neP_nn, neP_in, neP_ni, eqP_nn, eqP_in, eqP_ni, neP_bb, eqP_bb, ssm_fold, in_bl, ev_ixo, fIxa_ok, fIxb_bl, fIxc_s, ev_notT, fNotT_ok, fNotTd_s, W_par3, wP3a_ok, wP3b_ok, wP3c_ok, ev_rg1, fG1_ok, ev_rg2, fG2a_ok, fG2b_ok, ev_lstRg, ev_tupRg, ev_newRg, fLR_ok, fTR_ok, fNR_ok, ev_newOf, fNO_ok, fNOd_t, fNOd_l, setS_0, setS_S, W_sub, wS1_ok, wS2_ok, wS3_ok, wS4_s, TQ_nx, TQ_rt, TQ_ex, wTr_hit, wTr_miss, wTr_nil, rv_t, rv_l, rv_map, notIn_key, in_key, SQ_nx, SQ_rt, SQ_bk, SQ_ct, SQ_ex, addP_i, subP_i, negP_i, ltP_i, leP_i, gtP_i, geP_i, isP_n, isP_i, isP_b, isP_t, isP_l, isP_s, isNotP_n, isNotP_i, isNotP_b, isNotP_t, isNotP_l, isNotP_s, isP_bb, isNotP_bb, idxP_t, idxP_l, atI_0, atI_1, atI_2, sliceP_t, sliceP_l, lenP_t, lenP_l, lenP_f, tupleP_t, tupleP_l, listP_t, listP_l, minP_i, maxP_i, intP_i, intP_b, eqP_int, neP_int, List.set_cons_zero, List.set_cons_succ, List.length_cons, List.length_nil, List.map_cons, List.map_nil, List.length_map, List.cons_append, List.nil_append, List.append_nil, Option.map_some, Int.toNat_natCast, Int.reduceToNat, List.getElem?_map, List.getElem?_cons_zero, List.getElem?_cons_succ, List.replicate_zero, List.replicate_succ, Nat.sub_self, Nat.reduceSub, Nat.reduceAdd, Bool.not_true, Bool.not_false, List.take_zero, List.take_succ_cons, and_true, true_and, implies_true, decide_true, decide_false, Int.cast_ofNat_Int, Int.reduceEq, Int.reduceNe, Int.reduceLT, Int.reduceLE, $[$ts:term],*])
theorem inv_ex (m t : Int) (hm : 2 ≤ m) (ht : 0 ≤ t) (h : gcdI m t = 1) : ∃ x : Nat, 1 + (x : Int) < m ∧ (1 + (x : Int)) * t % m = 1 := by
  have hcop : ∀ d : Int, m ∣ d * t → m ∣ d := by
    intro d hd
    have hg : Nat.gcd m.toNat t.toNat = 1 := by unfold gcdI at h; omega
    have h1 : m.toNat ∣ (d * t).natAbs := by
      have := Int.natAbs_dvd_natAbs.mpr hd
      rwa [show m.natAbs = m.toNat by omega] at this
    rw [Int.natAbs_mul, show t.natAbs = t.toNat by omega] at h1
    have h2 := Nat.Coprime.dvd_of_dvd_mul_right (show Nat.Coprime m.toNat t.toNat from hg) h1
    have : m.natAbs ∣ d.natAbs := by rwa [show m.natAbs = m.toNat by omega]
    exact Int.natAbs_dvd_natAbs.mp this
  have key : (1 : Int) ∈ (List.range m.toNat).map fun x : Nat => (x : Int) * t % m := by
    apply Classical.byContradiction
    intro hno
    have hnd : ((List.range m.toNat).map fun x : Nat => (x : Int) * t % m).Nodup := by
      rw [List.Nodup, List.pairwise_map]
      refine List.Pairwise.imp_of_mem ?_ (List.pairwise_lt_range)
      intro a b ha hb hab e
      have ha := List.mem_range.mp ha
      have hb := List.mem_range.mp hb
      have hd : m ∣ ((b : Int) - a) * t := by
        rw [Int.sub_mul]
        exact Int.dvd_of_emod_eq_zero (Int.emod_eq_emod_iff_emod_sub_eq_zero.mp e.symm)
      have := Int.le_of_dvd (by omega) (hcop _ hd)
      omega
    have hsub : ∀ y ∈ (List.range m.toNat).map (fun x : Nat => (x : Int) * t % m), y ∈ ((List.range m.toNat).map fun x : Nat => (x : Int)).erase 1 := by
      intro y hy
      have hy1 : y ≠ 1 := by rintro rfl; exact hno hy
      obtain ⟨x, hx, rfl⟩ := List.mem_map.mp hy
      rw [List.mem_erase_of_ne hy1]
      have q0 := Int.emod_nonneg ((x : Int) * t) (show m ≠ 0 by omega)
      have q1 := Int.emod_lt_of_pos ((x : Int) * t) (show 0 < m by omega)
      exact List.mem_map.mpr ⟨((x : Int) * t % m).toNat, List.mem_range.mpr (by omega), by omega⟩
    have := nodup_len _ _ hnd hsub
    have hmem : (1 : Int) ∈ (List.range m.toNat).map (fun x : Nat => (x : Int)) := List.mem_map.mpr ⟨1, List.mem_range.mpr (by omega), rfl⟩
    rw [List.length_erase_of_mem hmem] at this
    simp at this
    omega
  obtain ⟨x, hx, e⟩ := List.mem_map.mp key
  have hx := List.mem_range.mp hx
  have hx0 : x ≠ 0 := by
    rintro rfl
    simp at e
  refine ⟨x - 1, by omega, ?_⟩
  rw [show 1 + (((x - 1 : Nat)) : Int) = (x : Int) by omega]
  exact e
theorem gcd_inv (m t x : Int) (hm : 2 ≤ m) (hx : 0 ≤ x) (h : x * t % m = 1) : gcdI m x = 1 := by
  have g0 := gcdI_nn m x
  obtain ⟨d1, d2⟩ := gcdI_dvd m x (by omega) hx
  have h1 : gcdI m x ∣ x * t := Int.dvd_trans d2 (Int.dvd_mul_right x t)
  have e := Int.mul_ediv_add_emod (x * t) m
  rw [h] at e
  rw [← e] at h1
  have h2 : gcdI m x ∣ 1 := (Int.dvd_add_right (Int.dvd_trans d1 (Int.dvd_mul_right m _))).mp h1
  have := Int.le_of_dvd (by omega) h2
  have : gcdI m x ≠ 0 := by
    intro z
    rw [z] at d1
    have := Int.zero_dvd.mp d1
    omega
  omega

theorem sum_mod (m t : Int) : ∀ xs : List Int, (xs.map fun x => x * t % m).sum % m = xs.sum * t % m
  | [] => by simp
  | x :: xs => by
    rw [List.map_cons, List.sum_cons, List.sum_cons, Int.emod_add_emod, ← Int.add_emod_emod, sum_mod m t xs, Int.add_emod_emod, Int.add_mul]
theorem ssm_scale (m t : Int) (r : List Int) (a b : Int) : ssm (r.map fun x => x * t % m) a b % m = ssm r a b * t % m := by
  unfold ssm
  rw [cut_map, sum_mod]
theorem sum_mod1 (m : Int) : ∀ xs : List Int, (xs.map fun x => x % m).sum % m = xs.sum % m
  | [] => by simp
  | x :: xs => by
    rw [List.map_cons, List.sum_cons, List.sum_cons, Int.emod_add_emod, ← Int.add_emod_emod, sum_mod1 m xs, Int.add_emod_emod]
theorem ssm_low (m : Int) (r : List Int) (a b : Int) : ssm (r.map fun x => x % m) a b % m = ssm r a b % m := by
  unfold ssm
  rw [cut_map, sum_mod1]
theorem ssm_rev (r : List Int) (l a b : Int) (hl : (r.length : Int) = l) (h0 : 0 ≤ a) (h1 : a ≤ b) (h2 : b ≤ l) : ssm r.reverse (l - b) (l - a) = ssm r a b := by
  rw [ssm_nat _ _ _ (by omega) (by omega), ssm_nat _ _ _ h0 (by omega)]
  have e : ((r.drop a.toNat).take (b.toNat - a.toNat)).reverse = (r.reverse.drop (l - b).toNat).take ((l - a).toNat - (l - b).toNat) := by
    rw [List.reverse_take, List.reverse_drop, List.length_drop, List.drop_take]
    congr 2
    all_goals omega
  rw [← e, List.sum_reverse]
theorem cancel_mod (m t x y : Int) (hm : 2 ≤ m) (ht : 0 ≤ t) (h : gcdI m t = 1) : (x * t % m = y * t % m) ↔ (x % m = y % m) := by
  constructor
  · intro e
    have hd : m ∣ (x - y) * t := by
      rw [Int.sub_mul]
      exact Int.dvd_of_emod_eq_zero (Int.emod_eq_emod_iff_emod_sub_eq_zero.mp e)
    have hg : Nat.gcd m.toNat t.toNat = 1 := by unfold gcdI at h; omega
    have h1 : m.toNat ∣ ((x - y) * t).natAbs := by
      have := Int.natAbs_dvd_natAbs.mpr hd
      rwa [show m.natAbs = m.toNat by omega] at this
    rw [Int.natAbs_mul, show t.natAbs = t.toNat by omega] at h1
    have h2 := Nat.Coprime.dvd_of_dvd_mul_right (show Nat.Coprime m.toNat t.toNat from hg) h1
    have : m.natAbs ∣ (x - y).natAbs := by rwa [show m.natAbs = m.toNat by omega]
    exact Int.emod_eq_emod_iff_emod_sub_eq_zero.mpr (Int.emod_eq_zero_of_dvd (Int.natAbs_dvd_natAbs.mp this))
  · intro e
    rw [Int.mul_emod, e, ← Int.mul_emod]
theorem all_congr {α : Type} {p q : α → Bool} {xs : List α} (h : ∀ x ∈ xs, p x = q x) : xs.all p = xs.all q := by
  induction xs with
  | nil => rfl
  | cons x xs ih => rw [List.all_cons, List.all_cons, h x (by simp), ih fun y hy => h y (by simp [hy])]
theorem fits_scaled (l m t : Int) (fs : List F3) (r : List Int) (hm : 2 ≤ m) (ht : 0 ≤ t) (hg : Gd l m fs) (h : gcdI m t = 1) : (fs.map (sclF m t)).all (fitB m (r.map fun x => x * t % m)) = fs.all (fitB m r) := by
  rw [List.all_map]
  refine all_congr fun f hf => ?_
  have := hg f hf
  show fitB m _ (sclF m t f) = _
  unfold fitB sclF
  simp only
  rw [ssm_scale, Bool.eq_iff_iff, decide_eq_true_eq, decide_eq_true_eq, cancel_mod m t _ _ hm ht h, Int.emod_eq_of_lt this.2.2.2.1 this.2.2.2.2]
theorem fits_turned (l m : Int) (fs : List F3) (r : List Int) (hg : Gd l m fs) (hl : (r.length : Int) = l) : (fs.map (trnF l)).all (fitB m r.reverse) = fs.all (fitB m r) := by
  rw [List.all_map]
  refine all_congr fun f hf => ?_
  have := hg f hf
  show fitB m _ (trnF l f) = _
  unfold fitB trnF
  simp only
  rw [ssm_rev r l f.1 f.2.1 hl this.1 (by omega) this.2.2.1]
theorem fits_low (m b : Int) (fs : List F3) (r : List Int) (hd : b ∣ m) (h : fs.all (fitB m r) = true) : (fs.map (lowF b)).all (fitB b (r.map fun x => x % b)) = true := by
  rw [List.all_map, List.all_eq_true]
  intro f hf
  have h1 := of_decide_eq_true (List.all_eq_true.mp h f hf)
  show fitB b _ (lowF b f) = true
  unfold fitB lowF
  simp only
  rw [ssm_low, decide_eq_true_eq, ← h1, Int.emod_emod_of_dvd _ hd]
end Z

end
section
namespace Z
open PySem PySem.Spec PyProof.Rows L2
/-! ### dict(list of pairs), len(dict) -/
def prsP : List P → Option (List (Key × P))
  | [] => some []
  | .tup [k, v] :: xs => (keyOf k).bind fun q => (prsP xs).bind fun r => some ((q, v) :: r)
  | _ => none
def mergeP (kvs more : List (Key × P)) : List (Key × P) := more.foldl (fun acc kv => putP acc kv.1 kv.2) kvs
def dictP : List P → Option P
  | [.lst xs] => (prsP xs).bind fun kvs => some (.dct (mergeP [] kvs))
  | _ => none
def lenDP : List P → Option P
  | [.dct kvs] => some (.int kvs.length)
  | _ => none
section
variable {X : Cx} {W : WX}
theorem RepD.merge {K : PySem.W.Frag} {H : Hp} {B : Dom} : ∀ {more : List (Key × P)} {rs : List (Key × V)} {xs : List (Key × P)} {vs : List (Key × V)}, RepD K H B more rs → RepD K H B xs vs → RepD K H B (mergeP xs more) (mergeK vs rs)
  | _, _, _, _, .nil, h => h
  | (k, x) :: xs, (_, v) :: vs, ys, ws, .cons h t, q => by
    show RepD K H B (mergeP (putP ys k x) xs) (mergeK (putK ws k v) vs)
    exact RepD.merge t (q.put h)
theorem keyOf_rep {K : PySem.W.Frag} {H : Hp} {B : Dom} {x : P} {v : V} {k : Key} (h : Rep K H B x v) (e : keyOf x = some k) : v = kV k := by
  unfold keyOf at e
  split at e
  · cases e; cases h; rfl
  · cases e; cases h; rfl
  · cases e
theorem prs_rep {K : PySem.W.Frag} {H : Hp} {B : Dom} : ∀ {xs : List P} {vs : List V} {kvs : List (Key × P)}, RepL K H B xs vs → prsP xs = some kvs → ∃ (ps : List Addr) (rs : List (Key × V)), vs = ps.map V.ref ∧ Paired (fun p kv => SqT K H p [kV kv.1, kv.2]) ps rs ∧ RepD K H B kvs rs
  | _, _, _, .nil, e => by
    cases e
    exact ⟨[], [], rfl, .nil, .nil⟩
  | x :: xs, v :: vs, kvs, .cons h t, e => by
    unfold prsP at e
    split at e
    · rename_i hq; cases hq
    · rename_i k w ys hq
      cases hq
      obtain ⟨q, e1, e⟩ := Option.bind_eq_some_iff.mp e
      obtain ⟨r, e2, e⟩ := Option.bind_eq_some_iff.mp e
      cases e
      obtain ⟨ps, rs, rfl, h2, h3⟩ := prs_rep t e2
      cases h with
      | tup g1 n1 r1 =>
      cases r1 with
      | cons ha ta =>
      cases ta with
      | cons hb tb =>
      cases tb
      obtain rfl := keyOf_rep ha e1
      exact ⟨_ :: ps, (q, _) :: rs, rfl, .cons (SqT.of g1) h2, .cons hb h3⟩
    · cases e
theorem call_dictPP (hcalm : X.calm = true) : CallR X (.type "dict") (rnP X.K dictP) := by
  refine CallR.imp (call_dictP hcalm) fun xs H Q ⟨B, ps, z, al, hp, e, k⟩ => ?_
  unfold dictP at e
  split at e
  · obtain ⟨kvs, e1, e⟩ := Option.bind_eq_some_iff.mp e
    cases e
    cases hp with
    | cons h t =>
      cases t
      obtain ⟨a, vs, rfl, g1, r1⟩ := h.lstI
      obtain ⟨qs, rs, rfl, h2, h3⟩ := prs_rep r1 e1
      refine ⟨a, qs, rs, rfl, SqL.of g1, h2, fun p np => ?_⟩
      have s := Same.upd (o := .dK (mergeK [] rs)) np
      have nB : ¬ B p := fun q => al p q np
      exact k _ _ s (.dct (.inl upd_same) nB ((RepD.merge h3 .nil).mono (fun b u e _ => s b u e) fun b q => .inl q))
  · cases e
theorem call_lenR : CallR X (.builtin "len") (fun xs H Q => ∃ (a : Addr) (kvs : List (Key × V)), xs = [.ref a] ∧ Rd H a (.dK kvs) ∧ Q (.int kvs.length) H) := by
  intro pins s σ H vs us Q I r h
  obtain ⟨a, kvs, rfl, e, k⟩ := h
  rw [Vals.ref1 r]
  exact d_len I e fun t s' I' => ⟨.int kvs.length, H, I', ⟨t, rfl⟩, k⟩
theorem call_lenDP : CallR X (.builtin "len") (rnP X.K lenDP) := by
  refine CallR.imp call_lenR fun xs H Q ⟨B, ps, z, al, hp, e, k⟩ => ?_
  unfold lenDP at e
  split at e
  · cases e
    cases hp with
    | cons h t =>
      cases t
      obtain ⟨a, vs, rfl, g1, g2⟩ := h.dctI
      exact ⟨a, vs, rfl, g1, by rw [← g2.length]; exact k _ H (fun _ _ h => h) (.int _)⟩
  · cases e
end
end Z

end
section
namespace Z
open PySem PySem.Spec PyProof.Rows L2
/-! ### a call whose own list becomes a thing -/
section
variable {K : PySem.W.Frag} {H : Hp} {F : Dom} {ρ : Rho} {S : List O}
theorem put_xt {H' : Hp} {p : Addr} (s : Same H H') (np : H p = none) : Xt H ρ H' (ρ ++ [some p]) := by
  refine ⟨fun b o e _ => s b o e, fun b n => (Xt.grow (ρ := ρ) s).stay b n, by simp, fun i a e => ?_⟩
  by_cases hi : i < ρ.length
  · rw [List.getElem?_append_left hi] at e; exact .inl e
  · have hi' : ρ.length ≤ i := Nat.le_of_not_lt hi
    rw [List.getElem?_append_right hi'] at e
    have : i - ρ.length = 0 := by
      cases q : i - ρ.length with
      | zero => rfl
      | succ n => rw [q] at e; simp at e
    rw [this] at e
    cases e
    exact .inr ⟨hi', np⟩
theorem put_rl {H' : Hp} {p : Addr} {o : O} (s : Same H H') (np' : H' p ≠ none) (r : Rl K H F ρ S) (np : H p = none) (h : RO K H' F (ρ ++ [some p]) o p) : Rl K H' F (ρ ++ [some p]) (S ++ [o]) := by
  have x := put_xt (ρ := ρ) s np
  have last : ∀ (i : Nat) (a : Addr), (ρ ++ [some p])[i]? = some (some a) → (i < ρ.length ∧ ρ[i]? = some (some a)) ∨ (i = ρ.length ∧ a = p) := fun i a e => by
    by_cases hi : i < ρ.length
    · rw [List.getElem?_append_left hi] at e; exact .inl ⟨hi, e⟩
    · have hi' : ρ.length ≤ i := Nat.le_of_not_lt hi
      rw [List.getElem?_append_right hi'] at e
      have h0 : i - ρ.length = 0 := by
        cases q : i - ρ.length with
        | zero => rfl
        | succ n => rw [q] at e; simp at e
      rw [h0] at e
      cases e
      exact .inr ⟨by omega, rfl⟩
  have nin : ∀ i : Nat, ρ[i]? = some (some p) → False := fun i e => r.al p (.inr (mem_rho.mpr ⟨i, e⟩)) np
  refine ⟨by simp [r.len], fun i j a e1 e2 => ?_, fun b q => ?_, fun i a e => ?_, fun i a o' e1 e2 => ?_, fun i o' e ng => ?_⟩
  · rcases last i a e1 with ⟨_, z1⟩ | ⟨z1, rfl⟩ <;> rcases last j _ e2 with ⟨_, z2⟩ | ⟨z2, z3⟩
    · exact r.nd i j a z1 z2
    · subst z3; exact (nin i z1).elim
    · exact (nin j z2).elim
    · rw [z1, z2]
  · rcases q with q | q
    · exact x.stay b (r.al b (.inl q))
    · obtain ⟨i, e⟩ := mem_rho.mp q
      rcases last i b e with ⟨_, z⟩ | ⟨_, rfl⟩
      · exact x.stay b (r.al b (.inr (mem_rho.mpr ⟨i, z⟩)))
      · exact np'
  · rcases last i a e with ⟨_, z⟩ | ⟨_, rfl⟩
    · exact r.ds i a z
    · exact fun q => r.al a (.inl q) np
  · rcases last i a e1 with ⟨hl, z⟩ | ⟨hl, rfl⟩
    · rw [List.getElem?_append_left (by rw [← r.len]; exact hl)] at e2
      exact (r.ob i a o' z e2).xt x fun u e => s a u e
    · rw [hl, r.len, List.getElem?_append_right (Nat.le_refl _), Nat.sub_self] at e2
      cases e2
      exact h
  · by_cases hi : i < S.length
    · rw [List.getElem?_append_left hi] at e
      obtain ⟨a, ha⟩ := r.go i o' e ng
      exact ⟨a, by rw [List.getElem?_append_left (by rw [r.len]; exact hi)]; exact ha⟩
    · have hi' : S.length ≤ i := Nat.le_of_not_lt hi
      rw [List.getElem?_append_right hi'] at e
      have h0 : i - S.length = 0 := by
        cases q : i - S.length with
        | zero => rfl
        | succ n => rw [q] at e; simp at e
      refine ⟨p, ?_⟩
      rw [List.getElem?_append_right (by rw [r.len]; exact hi'), r.len, h0]
      rfl
end
abbrev FnL := List Val → Option (List P)
/-- a def that tells a list of its own -/
def runFR (n : Nat) (b : SM) : List Val → Option (List P) := fun vs => match b (vs.map some ++ List.replicate (n - vs.length) none) [] with
  | some (.rt (.ref i), S1) => match S1[i]? with
    | some (.pl xs) => some xs
    | _ => none
  | _ => none
def spFR (K : PySem.W.Frag) (mg : Str → Option Value) (g : FnL) (n : Nat) : Sp := fun vs H Q E => vs.length = n ∧ ∃ F ds xs, Rl K H F [] [] ∧ RVs K H F [] ds vs ∧ g ds = some xs ∧
  ∀ a H' us, Same H H' → H a = none → H' a = some (.lst us) → RepL K H' (fun b => F b ∨ b = a) xs us → Q (.ref a) H'
def CalR (P : Program) (w : World) (K : PySem.W.Frag) (mg : Str → Option Value) (base : Heap) (k : Nat) (x : Str) (n : Nat) (g : FnL) : Prop :=
  ∃ (fa : Addr) (fd : FuncData) (ps : List Str), FnOk P w K mg base (L2.CX P w) k fa fd ps (spFR K mg g n) ∧ mg x = some (.ref fa) ∧ PySem.W.keepIn K (.ref fa) = true ∧ Binds K fd ps []
theorem CalR.mono {P : Program} {w : World} {K : PySem.W.Frag} {mg : Str → Option Value} {base : Heap} {j k : Nat} {x : Str} {n : Nat} {g : FnL} (c : CalR P w K mg base j x n g) (h : j ≤ k) : CalR P w K mg base k x n g :=
  let ⟨fa, fd, ps, h1, h2⟩ := c
  ⟨fa, fd, ps, h1.mono h, h2⟩
theorem fn_okR {P : Program} {w : World} {K : PySem.W.Frag} {mg : Str → Option Value} {base : Heap} {x qual : Str} {st : Stmt} {f : Addr} {fd : FuncData} {N ps : List Str} {k n : Nat} {b : SM} (F : Fun K x qual st f fd) (S : FnScope N ps (defScope st)) (hn : ps.length = n)
    (hb : ∀ (cdv : Value) (A : Around) (outer : List PySem.Env) (s : Shared) (H : Hp) (E : XK), Room k (A.deeper (envOfC qual (defScope st) s.heap.objs.size f cdv)) →
      DSs (cxOf (L2.CX P w) P w K mg base N qual (defScope st) f cdv A outer s H E) (fun cls d _ H => E cls d H) (defBody st) b) : FnOk P w K mg base (L2.CX P w) (k + 1) f fd ps (spFR K mg (runFR N.length b) n) := by
  refine F.okX S (fun vs H Q E h => by rw [hn]; exact h.1) fun cdv A outer s H vs Q E hr h => ⟨_, hb cdv A outer s H E hr, ?_⟩
  obtain ⟨_, D, ds, xs, r, rv, hg, h⟩ := h
  refine ⟨D, [], _, [], r, rv.start (N := N), ?_⟩
  unfold runFR at hg
  split at hg
  · rename_i i S1 hq
    rw [hq]
    split at hg
    · rename_i ys hi
      cases hg
      intro v H1 ρ1 x1 r1 v1
      obtain ⟨a, ha, rfl, us, g1, g2⟩ := thing_lst r1 v1 hi (by simp)
      rcases x1.old i a ha with z | ⟨_, z⟩
      · simp at z
      · refine h a H1 us (fun b o e => x1.keep b o e (by simp)) z g1 (g2.mono (fun _ _ e _ => e) fun b q => .inl ?_)
        rcases q with q | rfl
        · exact .inl q
        · exact .inr (mem_rho.mpr ⟨i, ha⟩)
    · cases hg
  · cases hg
theorem fn_ok2R {P : Program} {w : World} {K : PySem.W.Frag} {mg : Str → Option Value} {base : Heap} {x qual : Str} {st : Stmt} {fa : Addr} {fd : FuncData} (N : List Str) {ps : List Str} (k : Nat) {n : Nat} (b : SM) {g : FnL} (F : Fun K x qual st fa fd) (S : FnScope N ps (defScope st)) (hf : g = runFR N.length b) (hn : ps.length = n)
    (hb : ∀ (cdv : Value) (A : Around) (outer : List PySem.Env) (s : Shared) (H : Hp) (E : XK), Room k (A.deeper (envOfC qual (defScope st) s.heap.objs.size fa cdv)) → Takes (cxOf (L2.CX P w) P w K mg base N qual (defScope st) fa cdv A outer s H E) (fun cls d _ H => E cls d H) →
      PassesOwn (model P w) (A.deeper (envOfC qual (defScope st) s.heap.objs.size fa cdv)) (envOfC qual (defScope st) s.heap.objs.size fa cdv) (cxOf (L2.CX P w) P w K mg base N qual (defScope st) fa cdv A outer s H E).xe →
      DSs (cxOf (L2.CX P w) P w K mg base N qual (defScope st) fa cdv A outer s H E) (fun cls d _ H => E cls d H) (defBody st) b) : FnOk P w K mg base (L2.CX P w) (k + 1) fa fd ps (spFR K mg g n) := by
  subst hf
  exact fn_okR F S hn fun cdv A outer s H E hr => hb cdv A outer s H E hr (takes_of rfl rfl rfl rfl) (passes_of rfl)
/-- x = f(..), f tells a list of its own -/
def mNewCall (g : FnL) (ms : List EM) : EM := fun env S => bnd (evs ms env S) fun vs S1 => (purs vs).bind fun ps => (g (ps.map Val.p)).bind fun xs => some (.ok (.ref S1.length), S1 ++ [.pl xs])
theorem purs_eq : ∀ {vs : List Val} {ps : List P}, purs vs = some ps → vs = ps.map Val.p
  | [], _, e => by cases e; rfl
  | .p x :: vs, ps, e => by
    obtain ⟨q, e1, e⟩ := Option.bind_eq_some_iff.mp e
    obtain ⟨r, e2, e⟩ := Option.bind_eq_some_iff.mp e
    cases e1; cases e
    rw [purs_eq e2]; rfl
  | .ref i :: vs, ps, e => by
    obtain ⟨q, e1, e⟩ := Option.bind_eq_some_iff.mp e
    cases e1
section
variable {X : Cx} {W : WX}
theorem RVs.pure {K : PySem.W.Frag} {H : Hp} {F : Dom} {ρ : Rho} : ∀ {ps : List P} {vs : List V}, RVs K H F ρ (ps.map Val.p) vs → RVs K H (Bd F ρ) [] (ps.map Val.p) vs
  | [], _, .nil => .nil
  | p :: ps, _, .cons h t => .cons (Rep.mono (fun _ _ e _ => e) (fun b q => .inl (q.elim id fun z => by simp at z)) h) (RVs.pure t)
theorem de_newCall {k n : Nat} {x : Str} {g : FnL} {e : Expr} {es : List Expr} {ms : List EM} {p pos : Pos} (c : CalR X.prog X.w X.K X.mg X.base k x n g) (hr : Room k X.A) (tk : Takes X W) (ha : DA X W (e :: es) ms) (hl : ms.length = n := by rfl) (hg : Gl X x := by rfl) (hdb : (x == ("__debug__" : Str)) = false := by decide)
    (he : starEach (e :: es) X.env = (false, eval e X.env) :: starEach es X.env := by rfl) (hpl : (backTo pos (starEach es X.env)).any (·.1) = false := by rfl) : DE X W (.Call (.Name x p) (e :: es) [] pos) (mNewCall g ms) := by
  obtain ⟨fa, fd, ps, F0, hm, hk, hb⟩ := c
  refine PE.imp (pe_callS F0 hr hg hm hk hb (fun σ => passAt tk σ) ha hdb he hpl) fun σ H Q ⟨F, ρ, env, S, r, e, h⟩ => ?_
  unfold mNewCall at h
  refine ⟨F, ρ, env, S, r, e, (ans_eq h.bnd).imp (fun ds S1 h1 vs H1 ρ1 x1 r1 v1 => ?_) fun _ _ q => q⟩
  obtain ⟨e0, h1⟩ := h1
  obtain ⟨qs, e1, h1⟩ := h1.opt
  obtain ⟨xs, e2, h1⟩ := h1.opt
  have hds := purs_eq e1
  refine ⟨by rw [← v1.length, evs_length e0, hl], Bd F ρ1, qs.map Val.p, xs, ?_, RVs.pure (hds ▸ v1), e2, fun a H2 us s na ga ra => ?_⟩
  · exact ⟨rfl, fun i j a e => by simp at e, fun b q => r1.al b (q.elim id fun z => by simp at z), fun i a e => by simp at e, fun i a o e => by simp at e, fun i o e => by simp at e⟩
  · have px := put_xt (ρ := ρ1) s na
    refine KV1.xt x1 h1 (.ref a) H2 (ρ1 ++ [some a]) px (put_rl s (by rw [ga]; simp) r1 na ⟨us, ga, ra.mono (fun _ _ e _ => e) fun b q => .inl ?_⟩) ⟨?_, fun b hb => ?_⟩
    · rcases q with q | q
      · exact .inl (.inl q)
      · rcases List.mem_append.mp q with z | z
        · exact .inl (.inr z)
        · exact .inr (by simpa using z)
    · rw [← r1.len]; simp
    · rw [← r1.len, List.getElem?_append_right (Nat.le_refl _), Nat.sub_self] at hb
      cases hb; rfl
end
end Z

end
section
namespace Z
open PySem PySem.Spec PyProof.Rows L2
/-! ### tuple * 0, tuple * 1 -/
set_option maxHeartbeats 4000000 in
theorem tuple_mul1 (l : Addr) (items : Array Value) (n : Nat) (dd : Option Addr) (sl : Array (Option Value)) (u : Tok) (x : Int) (c0 : (decide (x < -(2 ^ 63)) || decide (x ≥ 2 ^ 63)) = false) (c1 : (items.isEmpty || x == 1) = true) :
    Meets (Builtin.«tuple.__mul__» ⟨[.ref l, .int x u], []⟩) (fun _ R s => s.heap.get? l = some { cls := .type "tuple", dict := dd, data := .seq items n, slots := sl } ∧ R (.ok (.ret (Value.ref l))) s) :=
  .of_wp fun prog w A R s h => by
    obtain ⟨hp, g, d, tk, os⟩ := s
    obtain ⟨hl, h⟩ := h
    have f1 := AutoSeq1.idx_int
    wp_walk using wpAny_loadPart' hl
    repeat (first
      | (refine wpAny_ite_false (decide_eq_false (by rw [c0]; exact Bool.false_ne_true)) ?_; wp_walk using wpAny_loadPart' hl)
      | (refine wpAny_ite_true (decide_eq_true c1) ?_; wp_walk using wpAny_loadPart' hl))
    exact ⟨_, rfl, h⟩
set_option maxHeartbeats 4000000 in
theorem tuple_mul0 (l : Addr) (items : Array Value) (n : Nat) (dd : Option Addr) (sl : Array (Option Value)) (u : Tok) (x : Int) (c0 : (decide (x < -(2 ^ 63)) || decide (x ≥ 2 ^ 63)) = false) (c1 : (items.isEmpty || x == 1) = false) (c2 : (decide (x ≤ 0) || items.isEmpty) = true) :
    Meets (Builtin.«tuple.__mul__» ⟨[.ref l, .int x u], []⟩) (fun _ R s => s.heap.get? l = some { cls := .type "tuple", dict := dd, data := .seq items n, slots := sl } ∧
      R (.ok (.ret (Value.ref s.heap.objs.size))) { s with heap := s.heap.push { cls := Value.type "tuple", data := Data.seq #[] }, toks := s.toks }) :=
  .of_wp fun prog w A R s h => by
    obtain ⟨hp, g, d, tk, os⟩ := s
    obtain ⟨hl, h⟩ := h
    have f1 := AutoSeq1.idx_int
    wp_walk using wpAny_loadPart' hl
    repeat (first
      | (refine wpAny_ite_false (decide_eq_false (by rw [c0]; exact Bool.false_ne_true)) ?_; wp_walk using wpAny_loadPart' hl)
      | (refine wpAny_ite_false (decide_eq_false (by rw [c1]; exact Bool.false_ne_true)) ?_; wp_walk using wpAny_loadPart' hl)
      | (refine wpAny_ite_true (decide_eq_true c2) ?_; wp_walk using wpAny_loadPart' hl)
      | (refine wpAny_ite_false (decide_eq_false (by decide)) ?_; wp_walk using wpAny_loadPart' hl))
    exact ⟨_, rfl, h⟩
def rRep1 (K : PySem.W.Frag) : R2 := fun x y H Q => ∃ l xs, x = .ref l ∧ y = .int 1 ∧ SqT K H l xs ∧ Q (.ref l) H
def rRep0 (K : PySem.W.Frag) : R2 := fun x y H Q => ∃ l xs, x = .ref l ∧ y = .int 0 ∧ SqT K H l xs ∧ xs ≠ [] ∧ ∀ p, H p = none → Q (.ref p) (upd H p (.tup []))
section
variable {X : Cx}
theorem op_rep1 : OpR X (binaryOp .Mult) (rRep1 X.K) := by
  intro pins s σ H x y v u Q I rx ry h
  obtain ⟨l, xs, rfl, rfl, hT, q⟩ := h
  cases rx
  obtain ⟨t, rfl⟩ := ry
  obtain ⟨its, r, ⟨⟨cls, dd, data, sl⟩, ho, hc, n, hd⟩, hs⟩ := I.tuple hT
  simp only at hc hd
  subst hc hd
  have c1 : (its.toArray.isEmpty || (1 : Int) == 1) = true := by rw [beq_self_eq_true, Bool.or_true]
  refine wpAny_binaryOp_repeat_ref (T := "tuple") (U := "int") (by decide) ⟨_, ho, rfl⟩ (fun s' => typeIs_int s' 1 t) noFill_tuple_mul F.fills_int_mul F.slot_int_rmul repeat_tuple F.slot_int_index.lookup
    (call_meets F.slot_int_rmul (typeIs_int s 1 t) F.entry_int_rmul (F.args_int_rmul_2 _ _) (int_rmul_tuple 1 t l its.toArray n dd sl)
      ⟨ho, rfl, ⟨_, ho, rfl⟩, call_meets F.slot_tuple_mul ⟨_, ho, rfl⟩ F.entry_tuple_mul (F.args_tuple_mul_2 _ _) (tuple_mul1 l its.toArray n dd sl t 1 (by decide) c1) ⟨ho, ?_⟩⟩)
  exact ⟨.ref l, _, I, rfl, q⟩
theorem op_rep0 : OpR X (binaryOp .Mult) (rRep0 X.K) := by
  intro pins s σ H x y v u Q I rx ry h
  obtain ⟨l, xs, rfl, rfl, hT, hne, q⟩ := h
  cases rx
  obtain ⟨t, rfl⟩ := ry
  obtain ⟨its, r, ⟨⟨cls, dd, data, sl⟩, ho, hc, n, hd⟩, hs⟩ := I.tuple hT
  simp only at hc hd
  subst hc hd
  have hle : its.length = xs.length := r.length.symm
  have hi : its.toArray.isEmpty = false := by
    cases its with
    | nil => exact absurd (List.eq_nil_of_length_eq_zero hle.symm) hne
    | cons a b => rfl
  refine wpAny_binaryOp_repeat_ref (T := "tuple") (U := "int") (by decide) ⟨_, ho, rfl⟩ (fun s' => typeIs_int s' 0 t) noFill_tuple_mul F.fills_int_mul F.slot_int_rmul repeat_tuple F.slot_int_index.lookup
    (call_meets F.slot_int_rmul (typeIs_int s 0 t) F.entry_int_rmul (F.args_int_rmul_2 _ _) (int_rmul_tuple 0 t l its.toArray n dd sl)
      ⟨ho, rfl, ⟨_, ho, rfl⟩, call_meets F.slot_tuple_mul ⟨_, ho, rfl⟩ F.entry_tuple_mul (F.args_tuple_mul_2 _ _) (tuple_mul0 l its.toArray n dd sl t 0 (by decide) (by rw [hi]; rfl) (by rw [hi]; rfl)) ⟨ho, ?_⟩⟩)
  refine ⟨.ref s.heap.objs.size, _, I.laid (t' := s.toks) (o := .tup []) (fun b ob q => Heap.get?_push_of_some _ q) (Nat.le_refl _) ?_, rfl, q _ (I.hok.fresh (Nat.le_refl _))⟩
  exact ⟨Nat.zero_le _, [], .nil, IsTup.new _ _⟩
/-- (x, ..) * n -/
def mulTP : P → P → Option P
  | .tup xs, .int k => if 0 ≤ k ∧ k ≤ 1000 ∧ xs ≠ [] ∧ xs.length ≤ 1000 then some (.tup (List.replicate k.toNat xs).flatten) else none
  | _, _ => none
open Classical in
theorem op_mulTP : OpR X (binaryOp .Mult) (r2P X.K mulTP) := by
  refine OpR.imp ((op_repT.or op_rep1).or op_rep0) fun x y H Q ⟨B, p, q, z, al, hp, hq, e, k⟩ => ?_
  unfold mulTP at e
  split at e
  · split at e
    · rename_i xs n hl
      cases e
      obtain ⟨a, vs, rfl, h1, nb, r1⟩ := hp.tup
      obtain rfl := hq.int
      have hlen : xs.length = vs.length := r1.length
      have hne : vs ≠ [] := fun z => hl.2.2.1 (List.eq_nil_of_length_eq_zero (by rw [hlen, z]; rfl))
      have rep : ∀ m : Nat, RepL X.K H B (List.replicate m xs).flatten (List.replicate m vs).flatten := fun m => by
        induction m with
        | zero => exact .nil
        | succ m ih => rw [List.replicate_succ, List.replicate_succ, List.flatten_cons, List.flatten_cons]; exact r1.append ih
      by_cases h0 : n = 0
      · subst h0
        exact .inr ⟨a, vs, rfl, rfl, SqT.of h1, hne, fun t ht => k _ _ (Same.upd ht) (.tup upd_same (fun q => al t q ht) ((rep 0).mono (fun b u e _ => Same.upd ht b u e) fun b q => .inl q))⟩
      by_cases h2 : n = 1
      · subst h2
        refine .inl (.inr ⟨a, vs, rfl, rfl, SqT.of h1, k _ H (fun _ _ h => h) (.tup h1 nb ?_)⟩)
        have := rep 1
        simpa using r1
      · exact .inl (.inl ⟨a, n, vs, rfl, rfl, SqT.of h1, hne, by omega, by omega, by omega, fun t ht => k _ _ (Same.upd ht) (.tup upd_same (fun q => al t q ht) ((rep _).mono (fun b u e _ => Same.upd ht b u e) fun b q => .inl q))⟩)
    · cases e
  · cases e
end
end Z

end
section
namespace Z
open PySem PySem.Spec PyProof.Rows L2
/-! ### sorted(dict), the keys whole numbers -/
def srtI (ks : List Int) : List Int := ks.mergeSort (fun a b => decide (a ≤ b))
theorem srtI_le (ks : List Int) : (srtI ks).Pairwise (· ≤ ·) := by
  have := List.pairwise_mergeSort (le := fun a b : Int => decide (a ≤ b)) (fun a b c h1 h2 => by simp only [decide_eq_true_eq] at *; omega) (fun a b => by simp only [Bool.or_eq_true, decide_eq_true_eq]; omega) ks
  exact this.imp fun h => by simpa using h
theorem srtI_perm (ks : List Int) : (srtI ks).Perm ks := List.mergeSort_perm ks _
theorem srt_uniq : ∀ {xs ys : List Int}, xs.Pairwise (· ≤ ·) → ys.Pairwise (· ≤ ·) → xs.Perm ys → xs = ys
  | [], ys, _, _, h => (List.Perm.eq_nil h.symm).symm
  | x :: xs, [], _, _, h => by have := h.length_eq; simp at this
  | x :: xs, y :: ys, h1, h2, h => by
    have a1 := List.pairwise_cons.mp h1
    have a2 := List.pairwise_cons.mp h2
    have e : x = y := by
      have b1 : y ≤ x := by
        rcases List.mem_cons.mp (h.mem_iff.mp (List.mem_cons_self (a := x))) with q | q
        · omega
        · exact a2.1 x q
      have b2 : x ≤ y := by
        rcases List.mem_cons.mp (h.mem_iff.mpr (List.mem_cons_self (a := y))) with q | q
        · omega
        · exact a1.1 y q
      omega
    subst e
    rw [srt_uniq a1.2 a2.2 (List.Perm.cons_inv h)]
def intKs : List (Key × P) → Option (List Int)
  | [] => some []
  | (.inl i, _) :: r => (intKs r).map (i :: ·)
  | (.inr _, _) :: _ => none
theorem intKs_some : ∀ {kvs : List (Key × P)} {ks : List Int}, intKs kvs = some ks → kvs.map (·.1) = ks.map Sum.inl
  | [], ks, h => by cases h; rfl
  | (.inl i, x) :: r, ks, h => by
    obtain ⟨ks', h1, rfl⟩ := Option.map_eq_some_iff.mp (show (intKs r).map (i :: ·) = some ks from h)
    rw [List.map_cons, List.map_cons, intKs_some h1]
  | (.inr _, _) :: _, _, h => by cases h
def sortedDP : List P → Option P
  | [.dct kvs] => (intKs kvs).bind fun ks => if ks.length < 64 then some (.lst ((srtI ks).map P.int)) else none
  | _ => none
section
variable {X : Cx} {W : WX}
theorem RepD.keys {K : PySem.W.Frag} {H : Hp} {B : Dom} : ∀ {xs : List (Key × P)} {vs : List (Key × V)}, RepD K H B xs vs → vs.map (·.1) = xs.map (·.1)
  | _, _, .nil => rfl
  | _, _, .cons _ t => by rw [List.map_cons, List.map_cons, RepD.keys t]
theorem repL_ints {K : PySem.W.Frag} {H : Hp} {B : Dom} : ∀ ys : List Int, RepL K H B (ys.map P.int) (ys.map V.int)
  | [] => .nil
  | y :: ys => .cons (.int y) (repL_ints ys)
theorem call_sortedDP (hcalm : X.calm = true) : CallR X (.builtin "sorted") (rnP X.K sortedDP) := by
  refine CallR.imp (call_sortedDI hcalm) fun xs H Q ⟨B, ps, z, al, hp, e, k⟩ => ?_
  unfold sortedDP at e
  split at e
  · rename_i kvs
    obtain ⟨ks, e1, e⟩ := Option.bind_eq_some_iff.mp e
    split at e
    · rename_i h64
      cases e
      cases hp with
      | cons h t =>
        cases t
        obtain ⟨a, vs, rfl, g1, g2⟩ := h.dctI
        refine ⟨a, vs, ks, rfl, g1, by rw [g2.keys, intKs_some e1], h64, fun ys p py ps np => ?_⟩
        have : ys = srtI ks := srt_uniq ps (srtI_le ks) (py.trans (srtI_perm ks).symm)
        subst this
        exact k _ _ (Same.upd np) (.lst upd_same (fun q => al p q np) (repL_ints _))
    · cases e
  · cases e
/-! ### range(a, b, -1) -/
def rngD (lo : Int) (n : Nat) : List P := (List.range n).map fun i : Nat => P.int (lo - (i : Int))
def iRange3 (a b c : EM) : IM := fun env S => bnd (a env S) fun v S1 => bnd (b env S1) fun u S2 => bnd (c env S2) fun w S3 => match v, u, w with
  | .p (.int i), .p (.int j), .p (.int k) => if smB i = true ∧ smB j = true ∧ k = -1 then some (.ok (rngD i (i - j).toNat), S3) else none
  | _, _, _ => none
theorem tax_three {K : PySem.W.Frag} {mg : Str → Option Value} {a b c : EM} {σ : L2.St} {H : Hp} {Q : List V → Hp → Prop} {F : Dom} {ρ : Rho} {env : Env} {S : List O} (r : Rl K H F ρ S) (e : RE K H F ρ env σ)
    (h : Ans (a env S) (fun d S1 => Ans (b env S1) (fun d2 S2 => Ans (c env S2) (fun d3 S3 => ∀ v w u H' ρ', Xt H ρ H' ρ' → Rl K H' F ρ' S3 → RV K H' F ρ' d v → RV K H' F ρ' d2 w → RV K H' F ρ' d3 u → Q [v, w, u] H') (KX1 K mg H F ρ σ W)) (KX1 K mg H F ρ σ W)) (KX1 K mg H F ρ σ W)) : TAx K mg W [a, b, c] σ H Q := by
  refine ⟨F, ρ, env, S, r, e, ?_⟩
  show Ans (bnd (a env S) fun v S1 => bnd (evs [b, c] env S1) fun vs S2 => some (.ok (v :: vs), S2)) _ _
  refine Ans.of_bnd (h.imp (fun d S1 h1 => ?_) fun _ _ q => q)
  show Ans (bnd (bnd (b env S1) fun v S1 => bnd (bnd (c env S1) fun v S2 => some (.ok [v], S2)) fun vs S2 => some (.ok (v :: vs), S2)) fun vs S2 => some (.ok (d :: vs), S2)) _ _
  refine Ans.of_bnd (Ans.of_bnd (h1.imp (fun d2 S2 h2 => ?_) fun _ _ q => q))
  refine Ans.of_bnd (Ans.of_bnd (h2.imp (fun d3 S3 h3 => ?_) fun _ _ q => q))
  show KL1 K H F ρ _ [d, d2, d3] S3
  intro vs H' ρ' x r' v
  cases v with
  | cons v1 t => cases t with
    | cons v2 t => cases t with
      | cons v3 t => cases t; exact h3 _ _ _ H' ρ' x r' v1 v2 v3
theorem itok_rngD {K : PySem.W.Frag} {H0 : Hp} {B0 : Dom} {lo : Int} {n : Nat} : ItOk K H0 B0 (Itc lo (-1) n) (rngD lo n) := by
  have hl : (rngD lo n).length = n := by simp [rngD]
  refine ⟨fun i H k hi => ?_, fun i H k hi => ?_, fun i H x H' p k e y => ?_⟩
  · rw [hl] at hi; exact hi
  · rw [hl] at hi; exact hi
  · obtain ⟨rfl, rfl⟩ := y
    have : p = .int (lo + (i : Nat) * (-1)) := by
      unfold rngD at e
      rw [List.getElem?_map] at e
      obtain ⟨j, hj, rfl⟩ := Option.map_eq_some_iff.mp e
      obtain ⟨h1, h2⟩ := List.getElem?_eq_some_iff.mp hj
      rw [List.getElem_range] at h2
      subst h2
      congr 1
      omega
    rw [this]
    exact ⟨fun _ _ e => e, fun B hb _ => .int _⟩
theorem di_range3 {tg : Expr} {a b c : Expr} {ma mb mc : EM} {p pos : Pos} (hm : X.mg "range" = none) (ha : DE X W a ma) (hb : DE X W b mb) (hc : DE X W c mc) (hg : Gl X "range" := by rfl) (hs : starEach [a, b, c] X.env = [(false, eval a X.env), (false, eval b X.env), (false, eval c X.env)] := by rfl) (hs2 : starEach [b, c] X.env = [(false, eval b X.env), (false, eval c X.env)] := by rfl) (hs3 : starEach [c] X.env = [(false, eval c X.env)] := by rfl) :
    DI X W tg (.Call (.Name "range" p) [a, b, c] [] pos) (iRange3 ma mb mc) := by
  refine PI.imp (pi_range3 hg hm (da_cons ha (da_cons hb (da_cons hc da_nil (by rw [hs3]; rfl)) (by rw [hs2, hs3])) (by rw [hs, hs2])) (by rw [hs, hs2]) (by rw [hs2]; rfl)) fun σ H R ⟨F, ρ, env, S, r, e, h⟩ => ?_
  unfold iRange3 at h
  refine tax_three r e (h.bnd.imp (fun d S1 h1 => h1.bnd.imp (fun d2 S2 h2 => h2.bnd.imp (fun d3 S3 h3 v w u H' ρ' x r' v1 w1 u1 => ?_) fun _ _ q => q) fun _ _ q => q) fun _ _ q => q)
  split at h3
  · rename_i i j k
    cases v1; cases w1; cases u1
    split at h3
    · rename_i hj
      obtain ⟨h1, h2, rfl⟩ := hj
      exact ⟨i, j, -1, (i - j).toNat, rfl, RgC.neg (smB_bd h1).1 (smB_bd h1).2 (smB_bd h2).1 (smB_bd h2).2, h3 _ H' ρ' x r' itok_rngD⟩
    · exact h3.elim
  · exact h3.elim
end
end Z

end
section
namespace Z
open PySem PySem.Spec PyProof.Rows L2
/-! ### <, <= of data that are alike -/
def cmpOk (p q : P) : Bool := lay 16 p && lay 16 q && PySem.W.alike p.py q.py && (match p with | .non => false | _ => true)
def leDP (p q : P) : Option P := if cmpOk p q = true then some (.bl (!PySem.W.dataLt q.py p.py)) else none
def ltDP (p q : P) : Option P := if cmpOk p q = true then some (.bl (PySem.W.dataLt p.py q.py)) else none
theorem cmp_ne {p : P} (h : (match p with | .non => false | _ => true) = true) : p.py ≠ .none := by
  cases p <;> simp [P.py] at h ⊢
section
variable {X : Cx} {W : WX}
theorem op_leD (hu : X.A.units + 64 < cLine) : OpR X (compareOp .LtE) (r2P X.K leDP) := by
  intro pins s σ H x y v u Q I rx ry h
  obtain ⟨B, p, q, z, al, hp, hq, e, k⟩ := h
  unfold leDP at e
  split at e
  · rename_i h
    cases e
    simp only [cmpOk, Bool.and_eq_true] at h
    obtain ⟨⟨⟨h1, h2⟩, h3⟩, h4⟩ := h
    obtain ⟨d1, s1⟩ := repA_dp h1 hp
    obtain ⟨d2, s2⟩ := repA_dp h2 hq
    obtain ⟨as, r1⟩ := Dp.reads I _ x v d1 rx
    obtain ⟨bs, r2⟩ := Dp.reads I _ y u d2 ry
    refine PySem.W.le_data r1 r2 h3 (cmp_ne h4) (by have := (lay_ok 16 p h1).2; omega) ⟨.bl _, H, I, rfl, k _ H (fun _ _ h => h) (.bl _)⟩
  · cases e
theorem op_ltD (hu : X.A.units + 64 < cLine) : OpR X (compareOp .Lt) (r2P X.K ltDP) := by
  intro pins s σ H x y v u Q I rx ry h
  obtain ⟨B, p, q, z, al, hp, hq, e, k⟩ := h
  unfold ltDP at e
  split at e
  · rename_i h
    cases e
    simp only [cmpOk, Bool.and_eq_true] at h
    obtain ⟨⟨⟨h1, h2⟩, h3⟩, h4⟩ := h
    obtain ⟨d1, s1⟩ := repA_dp h1 hp
    obtain ⟨d2, s2⟩ := repA_dp h2 hq
    obtain ⟨as, r1⟩ := Dp.reads I _ x v d1 rx
    obtain ⟨bs, r2⟩ := Dp.reads I _ y u d2 ry
    refine PySem.W.lt_data r1 r2 h3 (cmp_ne h4) (by have := (lay_ok 16 p h1).2; omega) ⟨.bl _, H, I, rfl, k _ H (fun _ _ h => h) (.bl _)⟩
  · cases e
/-! ### x or y, by truth -/
def mOrT (a b : EM) : EM := fun env S => bnd (a env S) fun v S1 => (truthV S1 v).bind fun k => if k = true then some (.ok v, S1) else b env S1
theorem de_orT {a b : Expr} {rest : List Expr} {ma mb : EM} {pos : Pos} (ha : DE X W a ma) (hb : DE X W (.BoolOp .Or (b :: rest) pos) mb) : DE X W (.BoolOp .Or (a :: b :: rest) pos) (mOrT ma mb) := by
  refine PE.imp (pe_orT ha hb) fun σ H Q ⟨F, ρ, env, S, r, e, h⟩ => ?_
  unfold mOrT at h
  refine ⟨F, ρ, env, S, r, e, h.bnd.imp (fun d S1 h1 v H1 ρ1 x1 r1 v1 => ?_) fun _ _ q => q⟩
  obtain ⟨k, e1, h2⟩ := h1.opt
  refine ⟨k, truth_rep r1 v1 e1, ?_⟩
  cases k with
  | true => exact (show KV1 X.K H F ρ Q d S1 from h2) _ H1 ρ1 x1 r1 v1
  | false => exact ⟨F, ρ1, env, S1, r1, e.xt x1, Ans.imp (show Ans (mb env S1) _ _ from h2) (fun _ _ q => q.xt x1) fun _ _ q => q.xt x1⟩
/-! ### max(tuple of whole numbers) -/
def intsT : List P → Option (List Int)
  | [] => some []
  | .int i :: xs => (intsT xs).map (i :: ·)
  | _ :: _ => none
theorem intsT_some : ∀ {xs : List P} {ns : List Int}, intsT xs = some ns → xs = ns.map P.int
  | [], _, h => by cases h; rfl
  | .int i :: xs, ns, h => by
    obtain ⟨ms, h1, rfl⟩ := Option.map_eq_some_iff.mp (show (intsT xs).map (i :: ·) = some ns from h)
    rw [List.map_cons, intsT_some h1]
  | .non :: _, _, h => by cases h
  | .bl _ :: _, _, h => by cases h
  | .str _ :: _, _, h => by cases h
  | .tup _ :: _, _, h => by cases h
  | .lst _ :: _, _, h => by cases h
  | .fz _ :: _, _, h => by cases h
  | .dct _ :: _, _, h => by cases h
  | .dcT _ :: _, _, h => by cases h
def max1P : List P → Option P
  | [.tup xs] => match intsT xs with
    | some (n :: ns) => some (.int (ns.foldl max n))
    | _ => none
  | _ => none
theorem repL_intsI {K : PySem.W.Frag} {H : Hp} {B : Dom} : ∀ {ns : List Int} {ws : List V}, RepL K H B (ns.map P.int) ws → ws = ns.map V.int
  | [], _, h => by cases h; rfl
  | n :: ns, _, h => by
    cases h with
    | cons a b => cases a; rw [List.map_cons, ← repL_intsI b]
theorem readsAll_ints {h : Heap} : ∀ {its : List Value} {ns : List Int}, IntsAre its ns → ∃ as, ReadsAll h its (ns.map PyData.int) as
  | _, _, .nil => ⟨[], .nil⟩
  | _, _, .cons k t r => by
    obtain ⟨as, q⟩ := readsAll_ints r
    exact ⟨_, .cons (.int k t) q⟩
theorem depth_ints : ∀ ns : List Int, PyData.depthAll (ns.map PyData.int) ≤ 1
  | [] => Nat.zero_le _
  | n :: ns => by
    have := depth_ints ns
    simp only [List.map_cons, PyData.depthAll, PyData.depth]
    omega
theorem call_max1P (hcalm : X.calm = true) (hu : X.A.units + 64 < cLine) : CallR X (.builtin "max") (rnP X.K max1P) := by
  intro pins s σ H vs us Q I r h
  obtain ⟨B, ps, z, al, hps, e, k⟩ := h
  unfold max1P at e
  split at e
  · rename_i xs
    split at e
    · rename_i n ns e1
      cases e
      obtain rfl := intsT_some e1
      cases hps with
      | cons h1 h2 =>
      cases h2
      obtain ⟨a, ws, rfl, ha, nb, rl⟩ := h1.tup
      obtain rfl := Vals.ref1 r
      obtain rfl := repL_intsI rl
      obtain ⟨its, rv, hl, hz⟩ := I.tuple (SqT.of ha)
      obtain ⟨as, rd⟩ := readsAll_ints (h := s.heap) (Vals.ints rv)
      have hd := depth_ints (n :: ns)
      refine PySem.W.max_tuple_data (x := .int n) (xs := ns.map PyData.int) (I.ok.hd hcalm) hl rd ?_ (by simp only [List.map_cons] at hd; omega) fun i v h' tk bs hv hr hk => ?_
      · refine ⟨fun x hx y hy => ?_, fun x hx => ?_⟩
        · obtain ⟨u, _, rfl⟩ := List.mem_map.mp (show x ∈ (n :: ns).map PyData.int from hx)
          obtain ⟨w, _, rfl⟩ := List.mem_map.mp (show y ∈ (n :: ns).map PyData.int from hy)
          rfl
        · obtain ⟨u, _, rfl⟩ := List.mem_map.mp (show x ∈ (n :: ns).map PyData.int from hx)
          intro q; cases q
      · rw [PySem.W.maxD_ints] at hr
        cases hr with
        | int m t => exact ⟨.int _, H, I.kept (t' := tk) hk, ⟨t, rfl⟩, k _ H (fun _ _ h => h) (.int _)⟩
    · cases e
  · cases e
end
end Z

end
section
namespace Z
open PySem PySem.Spec PyProof.Rows L2
section
variable {X : Cx} {W : WX}
/-! ### from here on a thing is plain data -/
def sFz (i : Nat) (b : SM) : SM := fun env S => match env[i]? with
  | some (some (.ref j)) => ((S[j]?).bind O.pure).bind fun x => b (env.set i (some (.p x))) (S.set j .gone)
  | _ => none
theorem set_same {α : Type} {xs : List α} {i : Nat} {x : α} (h : xs[i]? = some x) : xs.set i x = xs := by
  apply List.ext_getElem?
  intro k
  by_cases hk : i = k
  · subst hk
    rw [List.getElem?_set_self (List.getElem?_eq_some_iff.mp h).1, h]
  · rw [List.getElem?_set_ne hk]
theorem ds_fz (i : Nat) {st : Stmt} {b : SM} (h : DS X W st b) : DS X W st (sFz i b) := by
  refine PS.imp h fun D σ H ⟨F, ρ, env, S, r, e, a⟩ => ?_
  unfold sFz at a
  split at a
  · rename_i j hj
    obtain ⟨v, h1, h2⟩ := e.get i _ hj
    obtain ⟨x, e1, a⟩ := a.opt
    obtain ⟨o, e2, e3⟩ := Option.bind_eq_some_iff.mp e1
    have ng : o ≠ .gone := by rintro rfl; cases e3
    obtain ⟨b, hb⟩ := r.go j o e2 ng
    have hv := h2.2 b hb
    subst hv
    have hp : RV X.K H F (ρ.set j none) (.p x) (.ref b) := pure_rep (r.ob j b o hb e2) e3 (Xt.hb move_xt) fun q => by
      rcases q with q | q
      · exact r.ds j b hb q
      · obtain ⟨i', e'⟩ := mem_rho.mp q
        by_cases hj' : j = i'
        · subst hj'
          rw [List.getElem?_set_self (List.getElem?_eq_some_iff.mp hb).1] at e'; cases e'
        · rw [List.getElem?_set_ne hj'] at e'
          exact hj' (r.nd j i' b hb e')
    have re := (e.xt (move_xt (H := H) (ρ := ρ) (j := j))).set (i := i) hp
    rw [set_same h1] at re
    exact ⟨F, ρ.set j none, _, _, move_rl r, re, a.xt move_xt⟩
  · exact a.elim
/-! ### list + list that will be changed -/
def catL : P → P → Option (List P)
  | .lst xs, .lst ys => if xs.length + ys.length ≤ sizeLine then some (xs ++ ys) else none
  | _, _ => none
def mNewAdd (a b : EM) : EM := fun env S => bnd (a env S) fun v S1 => bnd (b env S1) fun u S2 => (deref S2 v).bind fun p => (deref S2 u).bind fun q => (catL p q).bind fun xs => some (.ok (.ref S2.length), S2 ++ [.pl xs])
theorem catL_some {p q : P} {zs : List P} (e : catL p q = some zs) : ∃ xs ys, p = .lst xs ∧ q = .lst ys ∧ xs.length + ys.length ≤ sizeLine ∧ zs = xs ++ ys := by
  unfold catL at e
  split at e
  · split at e
    · rename_i hl
      cases e
      exact ⟨_, _, rfl, rfl, hl, rfl⟩
    · cases e
  · cases e
theorem de_newAdd {a b : Expr} {ma mb : EM} {pos : Pos} (ha : DE X W a ma) (hb : DE X W b mb) : DE X W (.BinOp a .Add b pos) (mNewAdd ma mb) := by
  refine PE.imp (pe_op op_cat ha hb) fun σ H Q ⟨F, ρ, env, S, r, e, h⟩ => ?_
  unfold mNewAdd at h
  refine ⟨F, ρ, env, S, r, e, h.bnd.imp (fun d S1 h1 v H1 ρ1 x1 r1 v1 => ?_) fun _ _ q => q⟩
  refine ⟨F, ρ1, env, S1, r1, e.xt x1, h1.bnd.imp (fun d2 S2 h2 v2 H2 ρ2 x2 r2 w2 => ?_) fun _ _ q => q.xt x1⟩
  obtain ⟨p, e1, h2⟩ := h2.opt
  obtain ⟨q, e2, h2⟩ := h2.opt
  obtain ⟨zs, e3, h2⟩ := h2.opt
  obtain ⟨xs, ys, rfl, rfl, hl, rfl⟩ := catL_some e3
  obtain ⟨a, vs, rfl, g1, rr⟩ := (deref_rep r2 (v1.xt x2) e1).lstI
  obtain ⟨b, ws, rfl, g2, rr2⟩ := (deref_rep r2 w2 e2).lstI
  refine ⟨a, b, vs, ws, rfl, rfl, g1, g2, by rw [← rr.length, ← rr2.length]; exact hl, fun p np => ?_⟩
  have px : Xt H2 ρ2 (upd H2 p (.lst (vs ++ ws))) (ρ2 ++ [some p]) := push_xt np
  refine KV1.xt (x1.trans x2) (show KV1 X.K H F ρ Q (.ref S2.length) (S2 ++ [.pl (xs ++ ys)]) from h2) _ _ (ρ2 ++ [some p]) px (push_rl r2 np ⟨_, upd_same, (rr.append rr2).xt px⟩) ⟨?_, fun a ha => ?_⟩
  · rw [← r2.len]; simp
  · rw [← r2.len, List.getElem?_append_right (Nat.le_refl _), Nat.sub_self] at ha
    cases ha; rfl
end
end Z

end
section
namespace Z
open PySem PySem.Spec PySem.Calls PyProof.Rows PySem.W
section
variable {prog : Program} {w : World} {A : Around} {E : Value → Shared → Prop} {s : Shared}
/-- the items of a tuple, gathered in a new list -/
theorem collect_tup {l : Addr} {vs : List Value} {Q : List Value → Shared → Prop} (hl : IsTup s.heap l vs.toArray) (hsz : vs.length ≤ sizeLine)
    (h : Q vs { s with heap := (s.heap.push (seqObj "list" #[] 0)).update s.heap.objs.size (Obj.mapSeq (· ++ vs.toArray)) }) :
    wpAny (model prog w) A (collect (.ref l)) Q E s := by
  obtain ⟨o, ho, hc, n, hd⟩ := id hl
  unfold collect
  refine wpAny_bind (wpAny_runValue (codeAny_builtin entry_proto_collect' ?_))
  show wpAny _ _ (do again (.builtin "list.__iadd__" ⟨[← newList [], .ref l], []⟩)) _ _ s
  refine wpAny_bind (wpAny_newList (wpAny_pure ⟨Code.quiet_builtin _ (by decide +kernel), codeAny_builtin entry_list_iadd' ?_⟩))
  show wpAny _ _ (Builtin.List.listExtendWith (.ref s.heap.objs.size) (.ref l) (.ref s.heap.objs.size)) _ _ { s with heap := s.heap.push (seqObj "list" #[] 0) }
  unfold Builtin.List.listExtendWith
  have ho' : (s.heap.push (seqObj "list" #[] 0)).get? l = some o := Heap.get?_push_of_some _ ho
  refine wpAny_bind (wpAny_typeOf (T := "tuple") ⟨o, ho', hc⟩ ?_)
  have ht : (Value.type "tuple" == Value.type "tuple") = true := by rfl
  rw [if_pos (by rw [ht]; simp)]
  refine wpAny_bind (listItems_at ho' hd ?_)
  refine wpAny_bind (listItems_at (xs := #[]) (n := 0) (Heap.get?_push_size _ rfl) rfl ?_)
  rw [if_neg (by simp)]
  refine wpAny_bind (listUpdate_at (xs := #[]) (n := 0) (Heap.get?_push_size _ rfl) rfl ?_ (Nat.zero_le _) (by show (#[] ++ vs.toArray).size ≤ sizeLine + 1; simp only [Array.size_append, List.size_toArray, List.length_nil]; omega))
  refine wpAny_pure ?_
  show wpAny (model prog w) A (do
      let o ← load s.heap.objs.size
      match o.data with
      | .seq xs _ => pure xs.toList
      | _ => unsupported "internal:collect") Q E { s with heap := (s.heap.push (seqObj "list" #[] 0)).update s.heap.objs.size (Obj.mapSeq (· ++ vs.toArray)) }
  refine wpAny_bind (wpAny_load (get?_update_seq (Heap.get?_push_size _ rfl) _) ?_)
  show wpAny _ _ (pure ((#[] : Array Value) ++ vs.toArray).toList) Q E _
  rw [show ((#[] : Array Value) ++ vs.toArray).toList = vs by simp]
  exact wpAny_pure h
theorem sorted_of2 {κ : KeyKind} {l : Addr} {vs : List Value} {Q : Value → Shared → Prop} (hl : s.heap.IsList l vs.toArray ∨ IsTup s.heap l vs.toArray) (hL : vs.length ≤ sizeLine)
    (S : SortsAt prog w A.in1.in1 { s with heap := sortingHeap (copyHeap s.heap vs) (s.heap.objs.size + 1) vs } κ vs)
    (h : Q (.ref (s.heap.objs.size + 1)) { s with heap := sortedAll s.heap vs (sortVals κ false vs vs).toArray }) : wpAny (model prog w) A (call (.builtin "sorted") [.ref l]) Q E s := by
  rcases hl with hl | hl
  · exact sorted_vals hl S hL h
  refine call_function_entry_kw kind_sorted plain_sorted entry_sorted (args_sorted1 _) ?_
  unfold Builtin.«sorted»
  refine wpAny_bind (m := checkCount "sorted" 1 1 _) (wpAny_pure ?_)
  refine wpAny_bind (collect_tup hl hL ?_)
  refine wpAny_bind (wpAny_newList ?_ hL)
  have hsz : ((s.heap.push (seqObj "list" #[] 0)).update s.heap.objs.size (Obj.mapSeq (· ++ vs.toArray))).objs.size = s.heap.objs.size + 1 := by
    rw [Heap.size_update, size_push']
  show wpAny _ _ _ _ _ { s with heap := copyHeap s.heap vs }
  rw [hsz]
  refine wpAny_bind (wpAny_holding (wpAny_call_entry_kw slot_list_sort ⟨_, copyHeap_at s.heap vs, rfl⟩ entry_list_sort ?body (args_list_sort _)))
  case body =>
    refine wpAny_mono (list_sort_vals (P := fun f s' => f = .done (.ret .none) ∧ Q (.ref (s.heap.objs.size + 1)) s') (s := { s with heap := copyHeap s.heap vs }) (copyHeap_at s.heap vs) S hL ⟨rfl, h⟩) (fun f s' hf => ?_) fun _ _ e => e
    obtain ⟨rfl, hq⟩ := hf
    exact ⟨_, rfl, wpAny_pure ⟨_, rfl, hq⟩⟩
/-- one thing, or none: sorted already -/
theorem sorts_small {vs : List Value} {ds : List PyData} (e : EachIs (fun v d => ∃ as, Reads s.heap v d as) vs ds) (hal : AllAlike ds) (hk : vs.length ≤ 1) (hn : ∀ d, d ∈ ds → d ≠ .none) (hu : ∀ d, d ∈ ds → A.units + d.depth < cLine) : SortsAt prog w A s (dataKind s.heap ds) vs := by
  have room : ∀ {d d' : PyData}, d ∈ ds → A.units + min d.depth d'.depth < cLine := fun {d d'} hd => Nat.lt_of_le_of_lt (Nat.add_le_add_left (Nat.min_le_left _ _) _) (hu d hd)
  refine ⟨fun v hv => ?_, general', ?_, fun h2 => absurd h2 (by omega)⟩
  · obtain ⟨d, hd, as, r⟩ := e.left v hv
    exact ⟨_, dataKind_some hal hd r⟩
  · intro E x y a b Q ha hb hq
    obtain ⟨d, as, hd, ra, rfl⟩ := dataKind_inv ha
    obtain ⟨d', as', hd', rb, rfl⟩ := dataKind_inv hb
    exact oneLt_alike (f := false) (fun q => by cases q) ra rb (hal d hd d' hd') (hn d hd) (room hd) hq
end
open L2
/-! ### sorted(list or tuple); one thing alone may be an empty tuple -/
def nnB : PyData → Bool
  | .none => false
  | _ => true
def sortOk2 (xs : List P) : Bool := lays 15 xs && ((xs.map P.py).all fun d => (xs.map P.py).all fun e => PySem.W.alike d e) && ((xs.map P.py).all tup1B || (xs.map P.py).all flatB || (decide (xs.length ≤ 1) && (xs.map P.py).all nnB)) && decide (xs.length ≤ 1000000)
def srt2 (xs : List P) : Option P := if sortOk2 xs = true then some (.lst (xs.mergeSort (PySem.W.dataLe false P.py))) else none
def sorted2P : List P → Option P
  | [.lst xs] => srt2 xs
  | [.tup xs] => srt2 xs
  | _ => none
section
variable {X : Cx} {W : WX}
theorem sorted2_at {pins : List (Addr × Obj)} {s : Shared} {σ : L2.St} {H : Hp} {B : Dom} {Q : Value → Shared → Prop} {E : Value → Shared → Prop} (hu : X.A.units + 64 < cLine) (I : Inv X pins σ H s) {a : Addr} {xs : List P} {ws : List V} {its : List Value} {z : P} (e : srt2 xs = some z) (rl : RepL X.K H B xs ws) (rv : Vals ws its) (hl : s.heap.IsList a its.toArray ∨ IsTup s.heap a its.toArray) (al : ∀ b, B b → H b ≠ none)
    (k : ∀ v H', Same H H' → Rep X.K H' B z v → ∀ s' u, Inv X pins σ H' s' → RelV v u → Q u s') : wpAny (model X.prog X.w) X.A (call (.builtin "sorted") [.ref a]) Q E s := by
  unfold srt2 at e
  split at e
  · rename_i hok
    cases e
    simp only [sortOk2, Bool.and_eq_true, Bool.or_eq_true, decide_eq_true_eq] at hok
    obtain ⟨⟨⟨o1, o2⟩, o3⟩, o4⟩ := hok
    have eo := each_of rl rv
    have er := each_reads I o1 eo
    have hal : PySem.W.AllAlike (xs.map P.py) := fun d hd d' hd' => List.all_eq_true.mp (List.all_eq_true.mp o2 d hd) d' hd'
    have hL : xs.length ≤ sizeLine := Nat.le_trans o4 (by rw [sizeLine_eq]; decide)
    have hdep : ∀ p, p ∈ xs → X.A.units + 2 + p.py.depth < cLine := by
      intro p hp
      have hd := (lay_ok 15 p (by
        have : ∀ {ys : List P}, lays 15 ys = true → p ∈ ys → lay 15 p = true := fun {ys} => by
          induction ys with
          | nil => intro _ h; cases h
          | cons y ys ih =>
            intro h hm
            simp only [lays, Bool.and_eq_true] at h
            rcases List.mem_cons.mp hm with q | q
            · rw [q]; exact h.1
            · exact ih h.2 q
        exact this o1 hp)).2
      omega
    have er' : PySem.W.EachIs (fun v b => ∃ as, Reads (sortingHeap (copyHeap s.heap its) (s.heap.objs.size + 1) its) v (P.py b) as) its xs := er.mono fun _ _ ⟨as, r⟩ => ⟨as, PyProof.Rows.Reads.keeps (fun _ _ => sorting_copy_old) r⟩
    have em := each_map (R := fun v d => ∃ as, Reads (sortingHeap (copyHeap s.heap its) (s.heap.objs.size + 1) its) v d as) P.py er'
    have hS : SortsAt X.prog X.w X.A.in1.in1 { s with heap := sortingHeap (copyHeap s.heap its) (s.heap.objs.size + 1) its } (dataKind (sortingHeap (copyHeap s.heap its) (s.heap.objs.size + 1) its) (xs.map P.py)) its := by
      have hb : ∀ d, d ∈ xs.map P.py → X.A.in1.in1.units + d.depth < cLine := bound_map hdep
      rcases o3 with (o3 | o3) | ⟨o3, o5⟩
      · refine SortsAt.data em hal (.inl fun d hd => ?_) hb
        have := List.all_eq_true.mp o3 d hd
        unfold tup1B at this
        split at this
        · exact ⟨_, _, rfl⟩
        · cases this
      · refine SortsAt.data em hal (.inr fun d hd => ?_) hb
        have := List.all_eq_true.mp o3 d hd
        refine ⟨?_, ?_⟩
        · rintro rfl; cases this
        · rintro xs rfl; cases this
      · refine sorts_small em hal (by rw [eo.length]; exact o3) (fun d hd => ?_) hb
        have := List.all_eq_true.mp o5 d hd
        rintro rfl; cases this
    refine sorted_of2 hl (by rw [eo.length]; exact hL) hS ?_
    obtain ⟨ys, q1, q2⟩ := each_back (sortVals_data false eo er' hal)
    obtain ⟨ep, he'⟩ := PyProof.Rows.sortedAll_at s.heap its (sortVals (dataKind (sortingHeap (copyHeap s.heap its) (s.heap.objs.size + 1) its) (xs.map P.py)) false its its).toArray
    have hn := I.hok.fresh (Nat.le_succ s.heap.objs.size)
    have hlen2 : ys.length ≤ sizeLine := by
      rw [← q1.length, List.length_mergeSort]
      exact hL
    refine k (.ref (s.heap.objs.size + 1)) (upd H (s.heap.objs.size + 1) (.lst ys)) (Same.upd hn) (.lst upd_same (fun q => al _ q hn) (q1.mono (fun b u e _ => Same.upd hn b u e) fun b q => .inl q)) _ _ (I.laid (t' := s.toks) (fun _ _ => PyProof.Rows.sortedAll_old) (Nat.le_succ _) ⟨hlen2, _, ep, q2, he'⟩) rfl
  · cases e
theorem call_sorted2P (hu : X.A.units + 64 < cLine) : CallR X (.builtin "sorted") (rnP X.K sorted2P) := by
  intro pins s σ H vs us Q I r h
  obtain ⟨B, ps, z, al, hps, e, k⟩ := h
  unfold sorted2P at e
  split at e
  · cases hps with
    | cons h1 h2 =>
    cases h2
    obtain ⟨a, ws, rfl, ha, rl⟩ := h1.lstI
    obtain ⟨its, rv, hl, hz⟩ := I.list (SqL.of ha)
    rw [Vals.ref1 r]
    exact sorted2_at hu I e rl rv (.inl hl.isList) al fun v H' sm rp s' u I' ru => ⟨v, H', I', ru, k _ _ sm rp⟩
  · cases hps with
    | cons h1 h2 =>
    cases h2
    obtain ⟨a, ws, rfl, ha, rl⟩ := h1.tup
    obtain ⟨its, rv, hl, hz⟩ := I.tuple (SqT.of ha)
    rw [Vals.ref1 r]
    exact sorted2_at hu I e rl.2 rv (.inr hl) al fun v H' sm rp s' u I' ru => ⟨v, H', I', ru, k _ _ sm rp⟩
  · cases e
end
end Z

end
section
namespace Z
open PySem PySem.Spec PyProof.Rows L2
/-! ### a dict locked while it is walked -/
def isDc : HO → Prop
  | .dK _ => True
  | .dT _ => True
  | _ => False
/-- the heaps agree but at d, where both let the same dict be read -/
def LkAt (d : Addr) (H H' : Hp) : Prop := (∀ b, b ≠ d → H b = H' b) ∧ ∃ u, isDc u ∧ Rd H d u ∧ Rd H' d u
section
variable {K : PySem.W.Frag} {d : Addr} {H H' : Hp} {B : Dom}
theorem rd_uniq {a : Addr} {x y : HO} (hx : isDc x) (hy : isDc y) (h : Rd H a x) (h2 : Rd H a y) : x = y := by
  rcases h with h | ⟨o, h⟩ <;> rcases h2 with h2 | ⟨o2, h2⟩ <;> rw [h] at h2 <;> cases h2 <;> first | rfl | exact hx.elim | exact hy.elim
theorem LkAt.symm (l : LkAt d H H') : LkAt d H' H := ⟨fun b n => (l.1 b n).symm, by obtain ⟨k, q, a, b⟩ := l.2; exact ⟨k, q, b, a⟩⟩
theorem LkAt.rd' (l : LkAt d H H') {a : Addr} {x : HO} (hx : isDc x) (h : Rd H a x) : Rd H' a x := by
  by_cases q : a = d
  · subst q
    obtain ⟨k, hk, h1, h2⟩ := l.2
    rw [rd_uniq hx hk h h1]; exact h2
  · unfold Rd at *
    rw [← l.1 a q]; exact h
theorem LkAt.rd (l : LkAt d H H') {a : Addr} {x : List (Key × V)} (h : Rd H a (.dK x)) : Rd H' a (.dK x) := l.rd' trivial h
theorem LkAt.rdT (l : LkAt d H H') {a : Addr} {x : List (List Key × V)} (h : Rd H a (.dT x)) : Rd H' a (.dT x) := l.rd' trivial h
theorem LkAt.ne (l : LkAt d H H') {a : Addr} {o : HO} (h : H a = some o) (n1 : ¬ isDc o) (n2 : ∀ z x, o = .frz z x → ¬ isDc x) : H' a = some o := by
  by_cases q : a = d
  · subst q
    obtain ⟨k, hk, h1, _⟩ := l.2
    rcases h1 with h1 | ⟨z, h1⟩
    · rw [h] at h1; cases h1; exact (n1 hk).elim
    · rw [h] at h1; cases h1; exact (n2 _ _ rfl hk).elim
  · rw [← l.1 a q]; exact h
theorem LkAt.nn (l : LkAt d H H') {b : Addr} (h : H b ≠ none) : H' b ≠ none := by
  by_cases q : b = d
  · subst q
    obtain ⟨k, _, _, h1⟩ := l.2
    exact fun z => Rd.nn h1 z
  · rw [← l.1 b q]; exact h
mutual
theorem Rep.lk (l : LkAt d H H') : ∀ {x : P} {v : V}, Rep K H B x v → Rep K H' B x v
  | _, _, .non => .non
  | _, _, .bl b => .bl b
  | _, _, .int i => .int i
  | _, _, .str x => .str x
  | _, _, .tup e n r => .tup (l.ne e (fun q => q) fun _ _ q => nomatch q) n (RepL.lk l r)
  | _, _, .lst e n r => .lst (l.ne e (fun q => q) fun _ _ q => nomatch q) n (RepL.lk l r)
  | _, _, .fz h => .fz (by
    rcases h with ⟨o, e, n⟩ | h
    · exact .inl ⟨o, l.ne e (fun q => q) (fun _ _ q => by cases q; exact fun z => z), n⟩
    · exact .inr h)
  | _, _, .dct e n r => .dct (l.rd e) n (RepD.lk l r)
  | _, _, .dcT e n r => .dcT (l.rdT e) n (RepT.lk l r)
theorem RepL.lk (l : LkAt d H H') : ∀ {x : List P} {v : List V}, RepL K H B x v → RepL K H' B x v
  | _, _, .nil => .nil
  | _, _, .cons h t => .cons (Rep.lk l h) (RepL.lk l t)
theorem RepD.lk (l : LkAt d H H') : ∀ {x : List (Key × P)} {v : List (Key × V)}, RepD K H B x v → RepD K H' B x v
  | _, _, .nil => .nil
  | _, _, .cons h t => .cons (Rep.lk l h) (RepD.lk l t)
theorem RepT.lk (l : LkAt d H H') : ∀ {x : List (List Key × P)} {v : List (List Key × V)}, RepT K H B x v → RepT K H' B x v
  | _, _, .nil => .nil
  | _, _, .cons h t => .cons (Rep.lk l h) (RepT.lk l t)
end
end
section
variable {K : PySem.W.Frag} {d : Addr} {H H' : Hp} {F : Dom} {ρ : Rho} {S : List O} {env : Env} {σ : L2.St}
theorem RV.lk (l : LkAt d H H') : ∀ {x : Val} {v : V}, RV K H F ρ x v → RV K H' F ρ x v
  | .p _, _, h => Rep.lk l h
  | .ref _, _, h => h
theorem RVs.lk (l : LkAt d H H') : ∀ {xs : List Val} {vs : List V}, RVs K H F ρ xs vs → RVs K H' F ρ xs vs
  | _, _, .nil => .nil
  | _, _, .cons h t => .cons (h.lk l) (RVs.lk l t)
theorem RO.lk (l : LkAt d H H') {o : O} {a : Addr} (n : a ≠ d) (h : RO K H F ρ o a) : RO K H' F ρ o a := by
  have e : H' a = H a := (l.1 a n).symm
  cases o with
  | gone => exact h
  | pl xs => obtain ⟨vs, h1, h2⟩ := h; exact ⟨vs, e.trans h1, h2.lk l⟩
  | rl ks => obtain ⟨vs, h1, h2⟩ := h; exact ⟨vs, e.trans h1, h2.lk l⟩
  | pd xs => obtain ⟨vs, h1, h2⟩ := h; exact ⟨vs, e.trans h1, h2.lk l⟩
  | pdT xs => obtain ⟨vs, h1, h2⟩ := h; exact ⟨vs, e.trans h1, h2.lk l⟩
theorem Rl.lk (l : LkAt d H H') (n : ¬ Bd F ρ d) (r : Rl K H F ρ S) : Rl K H' F ρ S :=
  ⟨r.len, r.nd, fun b q => l.nn (r.al b q), r.ds, fun i a o h1 h2 => (r.ob i a o h1 h2).lk l (fun q => n (.inr (mem_rho.mpr ⟨i, by rw [← q]; exact h1⟩))), r.go⟩
theorem RE.lk (l : LkAt d H H') (h : RE K H F ρ env σ) : RE K H' F ρ env σ := ⟨h.len, fun i x e => by
  obtain ⟨v, h1, h2⟩ := h.get i x e
  exact ⟨v, h1, h2.lk l⟩⟩
end
section
variable {X : Cx} {W : WX}
theorem for_core {t : Tg} {b : SM} {cl : List Nat} {D : Ends} {σ : L2.St} {H : Hp} {F : Dom} {ρ : Rho} {env : Env} {S : List O} {J : It} {xs : List P} (r : Rl X.K H F ρ S) (e : RE X.K H F ρ env σ) (it : ItOk X.K H (Bd F ρ) J xs)
    (h1 : AnsS (forL t b cl xs env S) (KE1 X.K H F ρ D.nx) (KV1 X.K H F ρ D.rt) (KE1 X.K H F ρ D.bk) (KE1 X.K H F ρ D.ct) (KXS X.K X.mg H F ρ W)) : tFor (fun _ _ R => R J H) (TGx X.K t) (TSx X.K X.mg W b) D σ H := by
  refine ⟨fun i m σ' H' => m = xs.length - i ∧ i ≤ xs.length ∧ ∃ ρ' env' S', Xt H ρ H' ρ' ∧ Rl X.K H' F ρ' S' ∧ RE X.K H' F ρ' env' σ' ∧
    AnsS (forL t b cl (xs.drop i) env' S') (KE1 X.K H F ρ D.nx) (KV1 X.K H F ρ D.rt) (KE1 X.K H F ρ D.bk) (KE1 X.K H F ρ D.ct) (KXS X.K X.mg H F ρ W),
    ⟨_, rfl, Nat.zero_le _, ρ, env, S, Xt.refl, r, e, h1⟩, ?_⟩
  rintro i m σ' H' ⟨rfl, hi, ρ', env', S', x', r', e', a'⟩
  have k' : Kp H (Bd F ρ) H' := x'.hk
  by_cases hlt : i < xs.length
  · rw [List.drop_eq_getElem_cons hlt] at a'
    obtain ⟨en, e1, a'⟩ := AnsS.opt (show AnsS ((asg t xs[i] env').bind fun e => match b e S' with
      | some (.nx e', S') => forL t b cl (xs.drop (i + 1)) (clr cl e') S'
      | some (.ct e', S') => forL t b cl (xs.drop (i + 1)) (clr cl e') S'
      | some (.bk e', S') => some (.nx e', S')
      | r => r) _ _ _ _ _ from a')
    refine .inr ⟨it.go i H' k' hlt, fun σ2 H2 => i + 1 ≤ xs.length ∧ ∃ ρ' env' S', Xt H ρ H2 ρ' ∧ Rl X.K H2 F ρ' S' ∧ RE X.K H2 F ρ' env' σ2 ∧
      AnsS (forL t b cl (xs.drop (i + 1)) env' S') (KE1 X.K H F ρ D.nx) (KV1 X.K H F ρ D.rt) (KE1 X.K H F ρ D.bk) (KE1 X.K H F ρ D.ct) (KXS X.K X.mg H F ρ W), fun σ2 H2 q => ⟨xs.length - (i + 1), by omega, rfl, q⟩, fun x H2 y => ?_⟩
    obtain ⟨s2, rp⟩ := it.yl i H' x H2 xs[i] k' (by simp [hlt]) y
    have rx := rp (Bd F ρ') x'.hb r'.al
    have x2 : Xt H' ρ' H2 ρ' := Xt.grow s2
    refine ⟨F, ρ', env', xs[i], en, e'.xt x2, rx, e1, fun σ2 he2 _ _ => ⟨F, ρ', en, S', r'.grow s2, he2, ?_⟩⟩
    have xx : Xt H ρ H2 ρ' := x'.trans x2
    have again : ∀ {e2 : Env} {S2 : List O}, AnsS (forL t b cl (xs.drop (i + 1)) (clr cl e2) S2) (KE1 X.K H F ρ D.nx) (KV1 X.K H F ρ D.rt) (KE1 X.K H F ρ D.bk) (KE1 X.K H F ρ D.ct) (KXS X.K X.mg H F ρ W) →
        KE1 X.K H2 F ρ' (fun σ2 H2 => i + 1 ≤ xs.length ∧ ∃ ρ' env' S', Xt H ρ H2 ρ' ∧ Rl X.K H2 F ρ' S' ∧ RE X.K H2 F ρ' env' σ2 ∧
      AnsS (forL t b cl (xs.drop (i + 1)) env' S') (KE1 X.K H F ρ D.nx) (KV1 X.K H F ρ D.rt) (KE1 X.K H F ρ D.bk) (KE1 X.K H F ρ D.ct) (KXS X.K X.mg H F ρ W)) e2 S2 := fun {e2 S2} a2 σ3 H3 ρ3 x3 r3 e3 =>
      ⟨hlt, ρ3, _, S2, xx.trans x3, r3, e3.clr, a2⟩
    match q : b en S', a' with
    | some (.nx e2, S2), a' => exact again a'
    | some (.ct e2, S2), a' => exact again a'
    | some (.bk e2, S2), a' => exact KE1.xt xx a'
    | some (.rt v, S2), a' => exact KV1.xt xx a'
    | some (.ex c e2, S2), a' => exact KXS.xt xx a'
  · have hd : xs.drop i = [] := List.drop_eq_nil_of_le (Nat.le_of_not_lt hlt)
    rw [hd] at a'
    exact .inl ⟨it.st i H' k' (Nat.le_of_not_lt hlt), (show KE1 X.K H F ρ D.nx env' S' from a') σ' H' ρ' x' r' e'⟩
/-! ### for x in dict -/
def keyP : Key → P
  | .inl i => .int i
  | .inr x => .str x
theorem keyP_rep {K : PySem.W.Frag} {H : Hp} {B : Dom} : ∀ k : Key, Rep K H B (keyP k) (kV k)
  | .inl i => .int i
  | .inr x => .str x
theorem itok_keys {K : PySem.W.Frag} {H0 : Hp} {B0 : Dom} {a : Addr} {o : Obj} {vs : List (Key × V)} {xs : List (Key × P)} (h : H0 a = some (.frz o (.dK vs))) (n : ¬ B0 a) (r : RepD K H0 B0 xs vs) : ItOk K H0 B0 (Itk a o vs) (xs.map fun kv => keyP kv.1) := by
  have hl : xs.length = vs.length := r.length
  have hk : ∀ {xs : List (Key × P)} {vs : List (Key × V)}, RepD K H0 B0 xs vs → xs.map (·.1) = vs.map (·.1) := fun r => r.keys.symm
  refine ⟨fun i H k hi => ?_, fun i H k hi => ?_, fun i H x H' p k e y => ?_⟩
  · rw [List.length_map] at hi
    exact ⟨k a _ h n, by omega⟩
  · rw [List.length_map] at hi
    exact ⟨k a _ h n, by omega⟩
  · obtain ⟨rfl, kk, v, h1, rfl⟩ := y
    refine ⟨fun _ _ e => e, fun B _ _ => ?_⟩
    have h2 : (xs.map (·.1))[i]? = some kk := by rw [hk r, List.getElem?_map, h1]; rfl
    rw [List.getElem?_map] at e h2
    cases q : xs[i]? with
    | none => rw [q] at e; cases e
    | some z =>
      rw [q] at e h2
      cases e
      have : z.1 = kk := by simpa using h2
      subst this
      exact keyP_rep z.1
def dropEx (r : Option (Fl × List O)) : Option (Fl × List O) := match r with
  | some (.ex _ _, _) => none
  | r => r
/-- for x in NAME, the name holds a plain dict -/
def sForK (t : Tg) (i : Nat) (b : SM) (cl : List Nat) : SM := fun env S => match env[i]? with
  | some (some (.p (.dct kvs))) => dropEx (forL t b cl (kvs.map fun kv => keyP kv.1) env S)
  | _ => none
theorem ps_or {st : Stmt} {t u : TS} (h1 : PS X st t) (h2 : PS X st u) : PS X st (fun D σ H => t D σ H ∨ u D σ H) := ⟨fun pins s σ H D I h => h.elim (fun q => h1.run pins s σ H D I q) fun q => h2.run pins s σ H D I q⟩
theorem lk_lock {d : Addr} {H : Hp} {od : Obj} {vs : List (Key × V)} (h : H d = some (.dK vs)) : LkAt d H (upd H d (.frz od (.dK vs))) := ⟨fun b n => (upd_ne n).symm, .dK vs, trivial, .inl h, .inr ⟨od, upd_same⟩⟩
theorem ds_forK (i : Nat) {x : Str} {p0 pos : Pos} {tg : Expr} {body : List Stmt} {t : Tg} {b : SM} (cl : List Nat) (hp : PassesOwn (model X.prog X.w) X.A X.env X.xe) (hg : DG X tg t) (hb : DSs X W body b) (hN : X.N[i]? = some x := by rfl) (hv : Vis X.env.scope x := by first | exact Or.inl rfl | exact Or.inr (Or.inl rfl) | exact Or.inr (Or.inr rfl)) (hd : (x == ("__debug__" : Str)) = false := by decide)
    (hcd : (x == ("__classdict__" : Str)) = false := by decide) (hc : X.calm = true := by rfl) (hs : ∀ y, foldedSetIterable (.Name x p0) X.env y = pure y := by intro _; rfl) : DS X W (.For tg (.Name x p0) body [] pos) (sForK t i b cl) := by
  have base := ps_for (pos := pos) hp hc (pi_keys (tg := tg) (pe_var (pos := p0) hN hv hd hcd)) hg hb hs
  refine PS.imp (ps_or (ps_lock base) base) fun D σ H ⟨F, ρ, env, S, r, e, h⟩ => ?_
  unfold sForK at h
  split at h
  · rename_i kvs hk
    obtain ⟨v, h1, h2⟩ := e.get i _ hk
    have h2 : Rep X.K H (Bd F ρ) (.dct kvs) v := h2
    cases h2 with
    | @dct a vs _ rd na rD =>
      rcases rd with rd | ⟨o, rd⟩
      · refine .inl ⟨a, .dK vs, rd, trivial, fun od => ?_⟩
        have lk := lk_lock (od := od) rd
        have nr : some a ∉ ρ := fun q => na (.inr q)
        have un : ∀ {H' : Hp} {ρ' : Rho}, Xt (upd H a (.frz od (.dK vs))) ρ H' ρ' → H' a = some (.frz od (.dK vs)) ∧ Xt H ρ (upd H' a (.dK vs)) ρ' ∧ LkAt a H' (upd H' a (.dK vs)) ∧ ¬ Bd F ρ' a := fun {H' ρ'} x => by
          have e1 := x.keep a _ upd_same nr
          refine ⟨e1, ⟨fun b o eb nb => ?_, fun b hb => ?_, x.len, fun k c hc => ?_⟩, ⟨fun b n => (upd_ne n).symm, .dK vs, trivial, .inr ⟨od, e1⟩, .inl upd_same⟩, fun q => ?_⟩
          · by_cases q : b = a
            · subst q; rw [rd] at eb; cases eb; exact upd_same
            · rw [upd_ne q]; exact x.keep b o (by rw [upd_ne q]; exact eb) nb
          · by_cases q : b = a
            · subst q; rw [upd_same]; simp
            · rw [upd_ne q]; exact x.stay b (by rw [upd_ne q]; exact hb)
          · rcases x.old k c hc with z | ⟨z1, z2⟩
            · exact .inl z
            · refine .inr ⟨z1, ?_⟩
              by_cases q : c = a
              · subst q; rw [upd_same] at z2; cases z2
              · rw [upd_ne q] at z2; exact z2
          · rcases x.hb (F := F) a q with z | z
            · exact na z
            · rw [upd_same] at z; cases z
        refine ⟨.ref a, h1, a, od, rfl, .inl ⟨vs, upd_same, ?_⟩⟩
        refine for_core (cl := cl) (r.lk lk na) (e.lk lk) (itok_keys upd_same na (rD.lk lk)) ?_
        have kE : ∀ {k : L2.St → Hp → Prop} {e2 : Env} {S2 : List O}, KE1 X.K H F ρ k e2 S2 → KE1 X.K (upd H a (.frz od (.dK vs))) F ρ (fun σ' H' => H' a = some (.frz od (.dK vs)) ∧ k σ' (upd H' a (.dK vs))) e2 S2 := fun {k e2 S2} hk σ' H' ρ' x' r' e' => by
          obtain ⟨u1, u2, u3, u4⟩ := un x'
          exact ⟨u1, hk σ' _ ρ' u2 (r'.lk u3 u4) (e'.lk u3)⟩
        have kV : ∀ {k : VK} {v2 : Val} {S2 : List O}, KV1 X.K H F ρ k v2 S2 → KV1 X.K (upd H a (.frz od (.dK vs))) F ρ (fun v H' => H' a = some (.frz od (.dK vs)) ∧ k v (upd H' a (.dK vs))) v2 S2 := fun {k v2 S2} hk v H' ρ' x' r' e' => by
          obtain ⟨u1, u2, u3, u4⟩ := un x'
          exact ⟨u1, hk v _ ρ' u2 (r'.lk u3 u4) (e'.lk u3)⟩
        unfold dropEx at h
        generalize forL t b cl (kvs.map fun kv => keyP kv.1) env S = R at h ⊢
        match R, h with
        | some (.nx e2, S2), h => exact kE h
        | some (.rt v2, S2), h => exact kV h
        | some (.bk e2, S2), h => exact kE h
        | some (.ct e2, S2), h => exact kE h
        | some (.ex c2 e2, S2), h => exact h.elim
        | none, h => exact h.elim
      · refine .inr ⟨.ref a, h1, a, o, rfl, .inl ⟨vs, rd, ?_⟩⟩
        refine for_core (cl := cl) r e (itok_keys rd na rD) ?_
        unfold dropEx at h
        split at h
        · exact h.elim
        · exact h
  · exact h.elim
end
end Z

end
section
namespace Z
open PySem PySem.Spec PyProof.Rows L2
section
variable {X : Cx} {W : WX}
/-! ### a thing just made is plain data -/
def mFzE (m : EM) : EM := fun env S => bnd (m env S) fun v S1 => match v with
  | .ref j => ((S1[j]?).bind O.pure).bind fun x => some (.ok (.p x), S1.set j .gone)
  | _ => none
theorem de_fzE {e : Expr} {m : EM} (h : DE X W e m) : DE X W e (mFzE m) := by
  refine PE.imp h fun σ H Q ⟨F, ρ, env, S, r, e, a⟩ => ?_
  unfold mFzE at a
  refine ⟨F, ρ, env, S, r, e, a.bnd.imp (fun d S1 h1 v H1 ρ1 x1 r1 v1 => ?_) fun _ _ q => q⟩
  split at h1
  · rename_i j
    obtain ⟨x, e1, h1⟩ := h1.opt
    obtain ⟨o, e2, e3⟩ := Option.bind_eq_some_iff.mp e1
    have ng : o ≠ .gone := by rintro rfl; cases e3
    obtain ⟨b, hb⟩ := r1.go j o e2 ng
    have hv := v1.2 b hb
    subst hv
    have hp : RV X.K H1 F (ρ1.set j none) (.p x) (.ref b) := pure_rep (r1.ob j b o hb e2) e3 (Xt.hb move_xt) fun q => by
      rcases q with q | q
      · exact r1.ds j b hb q
      · obtain ⟨i', e'⟩ := mem_rho.mp q
        by_cases hj' : j = i'
        · subst hj'
          rw [List.getElem?_set_self (List.getElem?_eq_some_iff.mp hb).1] at e'; cases e'
        · rw [List.getElem?_set_ne hj'] at e'
          exact hj' (r1.nd j i' b hb e')
    exact (show KV1 X.K H F ρ Q (.p x) (S1.set j .gone) from h1) (.ref b) H1 (ρ1.set j none) (x1.trans move_xt) (move_rl r1) hp
  · exact h1.elim
/-! ### d.get(k, x) -/
def mDGet2 (o i z : EM) : EM := fun env S => bnd (o env S) fun v S1 => match v with
  | .p (.dct kvs) => bnd (i env S1) fun u S2 => bnd (z env S2) fun w S3 => match u, w with
    | .p kp, .p x => (keyOf kp).bind fun k => some (.ok (.p ((valP kvs k).getD x)), S3)
    | _, _ => none
  | _ => none
theorem de_dget2 {o i z : Expr} {mo mi mz : EM} {apos cpos : Pos} (hu : X.A.units + 1 < cLine) (ho : DE X W o mo) (hi : DE X W i mi) (hz : DE X W z mz) (m : M2 X o "get" apos i z cpos := by exact ⟨rfl, rfl, rfl, rfl⟩) : DE X W (.Call (.Attribute o "get" apos) [i, z] [] cpos) (mDGet2 mo mi mz) := by
  refine PE.imp (pe_dget2 hu ho hi hz m) fun σ H Q ⟨F, ρ, env, S, r, e, h⟩ => ?_
  unfold mDGet2 at h
  refine ⟨F, ρ, env, S, r, e, h.bnd.imp (fun d S1 h1 v H1 ρ1 x1 r1 v1 => ?_) fun _ _ q => q⟩
  split at h1
  · rename_i kvs
    have v1' : Rep X.K H1 (Bd F ρ1) (.dct kvs) v := v1
    cases v1' with
    | @dct a vs _ rd na rD =>
      refine ⟨a, rfl, .inl ⟨vs, rd⟩, F, ρ1, env, S1, r1, e.xt x1, h1.bnd.imp (fun d2 S2 h2 v2 H2 ρ2 x2 r2 w2 => ?_) fun _ _ q => q.xt x1⟩
      refine ⟨F, ρ2, env, S2, r2, (e.xt x1).xt x2, h2.bnd.imp (fun d3 S3 h3 v3 H3 ρ3 x3 r3 w3 => ?_) fun _ _ q => q.xt (x1.trans x2)⟩
      split at h3
      · rename_i kp x
        obtain ⟨k, e4, h3⟩ := h3.opt
        obtain rfl := key_rep (Rep.xt x3 w2) e4
        have rd3 : Rd H3 a (.dK vs) := Rd.mono' (x2.trans x3).hk rd na
        have rD3 : RepD X.K H3 (Bd F ρ3) kvs vs := rD.xt (x2.trans x3)
        refine ⟨valV vs k, .inl ⟨vs, k, rd3, rfl, rfl⟩, ?_⟩
        have fin := KV1.xt ((x1.trans x2).trans x3) (show KV1 X.K H F ρ Q (.p ((valP kvs k).getD x)) S3 from h3)
        rcases rD3.val (k := k) with ⟨q1, q2⟩ | ⟨y, w, q1, q2, q3⟩
        · rw [q1] at fin; rw [q2]
          exact fin _ H3 ρ3 Xt.refl r3 w3
        · rw [q1] at fin; rw [q2]
          exact fin _ H3 ρ3 Xt.refl r3 q3
      · exact h3.elim
  · exact h1.elim
end
/-! ### dicts whose keys are tuples -/
def keysOf : List P → Option (List Key)
  | [] => some []
  | x :: xs => (keyOf x).bind fun k => (keysOf xs).bind fun ks => some (k :: ks)
def keyT : P → Option (List Key)
  | .tup xs => keysOf xs
  | _ => none
def putT (kvs : List (List Key × P)) (k : List Key) (v : P) : List (List Key × P) :=
  if (kvs.any fun kv => decide (kv.1 = k)) = true then kvs.map fun kv => if kv.1 = k then (kv.1, v) else kv else kvs ++ [(k, v)]
def valT (kvs : List (List Key × P)) (k : List Key) : Option P := (kvs.find? fun kv => decide (kv.1 = k)).map (·.2)
section
variable {K : PySem.W.Frag} {H : Hp} {B : Dom}
theorem RepT.any {k : List Key} : ∀ {xs : List (List Key × P)} {vs : List (List Key × V)}, RepT K H B xs vs → (xs.any fun kv => decide (kv.1 = k)) = vs.any fun kv => decide (kv.1 = k)
  | _, _, .nil => rfl
  | _, _, .cons _ t => by rw [List.any_cons, List.any_cons, RepT.any t]
theorem RepT.repl {k : List Key} {x : P} {v : V} : ∀ {xs : List (List Key × P)} {vs : List (List Key × V)}, RepT K H B xs vs → Rep K H B x v → RepT K H B (xs.map fun kv => if kv.1 = k then (kv.1, x) else kv) (vs.map fun kv => if kv.1 = k then (kv.1, v) else kv)
  | _, _, .nil, _ => .nil
  | _, _, .cons (k := j) h t, hx => by
    rw [List.map_cons, List.map_cons]
    by_cases e : j = k
    · simp only [e, if_true]; exact .cons hx (RepT.repl t hx)
    · simp only [e, if_false]; exact .cons h (RepT.repl t hx)
theorem RepT.append : ∀ {xs ys : List (List Key × P)} {vs ws : List (List Key × V)}, RepT K H B xs vs → RepT K H B ys ws → RepT K H B (xs ++ ys) (vs ++ ws)
  | _, _, _, _, .nil, s => s
  | _, _, _, _, .cons h t, s => .cons h (RepT.append t s)
theorem RepT.put {k : List Key} {x : P} {v : V} {xs : List (List Key × P)} {vs : List (List Key × V)} (h : RepT K H B xs vs) (hx : Rep K H B x v) : RepT K H B (putT xs k x) (putK vs k v) := by
  unfold putT putK
  rw [h.any]
  split
  · exact h.repl hx
  · exact h.append (.cons hx .nil)
theorem RepT.length : ∀ {xs : List (List Key × P)} {vs : List (List Key × V)}, RepT K H B xs vs → xs.length = vs.length
  | _, _, .nil => rfl
  | _, _, .cons _ t => by rw [List.length_cons, List.length_cons, RepT.length t]
theorem RepT.val {k : List Key} : ∀ {xs : List (List Key × P)} {vs : List (List Key × V)}, RepT K H B xs vs → (valT xs k = none ∧ valV vs k = none) ∨ ∃ x v, valT xs k = some x ∧ valV vs k = some v ∧ Rep K H B x v
  | _, _, .nil => .inl ⟨rfl, rfl⟩
  | _, _, .cons (k := j) (x := x) (v := v) (xs := xs) (vs := vs) h t => by
    by_cases e : j = k
    · exact .inr ⟨x, v, by simp [valT, List.find?_cons, e], by simp [valV, List.find?_cons, e], h⟩
    · have e1 : valT ((j, x) :: xs) k = valT xs k := by simp [valT, List.find?_cons, e]
      have e2 : valV ((j, v) :: vs) k = valV vs k := by simp [valV, List.find?_cons, e]
      rw [e1, e2]
      exact RepT.val t
theorem keys_rep : ∀ {xs : List P} {vs : List V} {ks : List Key}, RepL K H B xs vs → keysOf xs = some ks → vs = ks.map kV
  | _, _, _, .nil, e => by cases e; rfl
  | _, _, _, .cons h t, e => by
    obtain ⟨k, e1, e⟩ := Option.bind_eq_some_iff.mp e
    obtain ⟨ks, e2, e⟩ := Option.bind_eq_some_iff.mp e
    cases e
    rw [List.map_cons, key_rep h e1, keys_rep t e2]
theorem keyT_rep {x : P} {v : V} {k : List Key} (h : Rep K H B x v) (e : keyT x = some k) : ∃ b, v = .ref b ∧ H b = some (.tup (k.map kV)) := by
  cases h with
  | tup e1 n r => exact ⟨_, rfl, by rw [e1, keys_rep r e]⟩
  | non => cases e
  | bl b => cases e
  | int b => cases e
  | str b => cases e
  | fz b => cases e
  | lst _ _ _ => cases e
  | dct _ _ _ => cases e
  | dcT _ _ _ => cases e
end
section
variable {X : Cx} {W : WX}
theorem de_newT {pos : Pos} : DE X W (.Dict [] [] pos) mNewT := by
  refine PE.imp pe_dnewT fun σ H Q ⟨F, ρ, env, S, r, e, h⟩ p np => ?_
  have px : Xt H ρ (upd H p (.dT [])) (ρ ++ [some p]) := push_xt np
  refine (show KV1 X.K H F ρ Q (.ref S.length) (S ++ [.pdT []]) from h) _ _ (ρ ++ [some p]) px (push_rl r np ⟨[], upd_same, .nil⟩) ⟨?_, fun a ha => ?_⟩
  · rw [← r.len]; simp
  · rw [← r.len, List.getElem?_append_right (Nat.le_refl _), Nat.sub_self] at ha
    cases ha; rfl
/-- d[k] = e, the key is a tuple -/
def mPutT (o i e : EM) : SM := fun env S => stm env (e env S) fun u S1 => stm env (o env S1) fun v S2 => stm env (i env S2) fun k S3 => match v, k, u with
  | .ref r, .p kp, .p x => match S3[r]? with
    | some (.pdT kvs) => (keyT kp).bind fun k => if kvs.length < sizeLine then some (.nx env, S3.set r (.pdT (putT kvs k x))) else none
    | _ => none
  | _, _, _ => none
theorem ds_putT {o i value : Expr} {mo mi me : EM} {pos pos' : Pos} (hu : X.A.units + 1 < cLine) (ho : DE X W o mo) (hi : DE X W i mi) (hv : DE X W value me) (hs : swapsWith value (some (.Subscript o i pos')) pos.line X.env = pure false := by rfl) : DS X W (.Assign [.Subscript o i pos'] value pos) (mPutT mo mi me) := by
  refine PS.imp (ps_dput hu ho hi hv hs) fun D σ H ⟨F, ρ, env, S, r, e, h⟩ => ?_
  unfold mPutT at h
  refine ⟨F, ρ, env, S, r, e, h.stm.imp (fun du S1 h1 v H1 ρ1 x1 r1 v1 => ?_) fun _ _ q => KXS.one e q⟩
  refine ⟨F, ρ1, env, S1, r1, e.xt x1, h1.stm.imp (fun dv S2 h2 o H2 ρ2 x2 r2 o2 => ?_) fun _ _ q => KXS.one (e.xt x1) (KXS.xt x1 q)⟩
  refine ⟨F, ρ2, env, S2, r2, (e.xt x1).xt x2, h2.stm.imp (fun dk S3 h3 kk H3 ρ3 x3 r3 k3 => ?_) fun _ _ q => KXS.one ((e.xt x1).xt x2) (KXS.xt (x1.trans x2) q)⟩
  split at h3
  · rename_i rr kp x
    split at h3
    · rename_i kvs q
      obtain ⟨k, e1, h3⟩ := h3.opt
      split at h3
      · rename_i hl
        obtain ⟨a, ha, rfl, vs, g1, g2⟩ := thing_lst r3 (o2.xt x3) q (by simp)
        obtain ⟨b, rfl, eb⟩ := keyT_rep k3 e1
        have y := write_xt (H := H3) (ho := .dT (putK vs k v)) ha
        have xx := (x1.trans x2).trans x3
        refine ⟨a, _, rfl, DPut.t g1 eb (by rw [← g2.length]; exact hl), ?_⟩
        exact (show KE1 X.K H F ρ D.nx env (S3.set rr (.pdT (putT kvs k x))) from h3) σ _ ρ3 (xx.trans y) (write_rl r3 ha ⟨_, upd_same, (g2.xt y).put (Rep.xt ((x2.trans x3).trans y) v1)⟩) (e.xt (xx.trans y))
      · exact h3.elim
    · exact h3.elim
  · exact h3.elim
/-- d[k], the key is a tuple -/
def tgetP : P → P → Option P
  | .dcT kvs, x => (keyT x).bind fun k => valT kvs k
  | _, _ => none
theorem keyTA {K : PySem.W.Frag} {H : Hp} {B : Dom} {x : P} {v : V} {k : List Key} (h : RepA K H B x v) (e : keyT x = some k) : ∃ b, v = .ref b ∧ H b = some (.tup (k.map kV)) := by
  cases h with
  | rep h => exact keyT_rep h e
  | lst h1 h2 => cases e
  | dct h1 h2 => cases e
  | dcT h1 h2 => cases e
theorem de_tget {o i : Expr} {mo mi : EM} {pos : Pos} (hu : X.A.units + 1 < cLine) (ho : DE X W o mo) (hi : DE X W i mi) (hs : NoSl i := by intro _ _; rfl) : DE X W (.Subscript o i pos) (mP2 tgetP mo mi) := by
  refine PE.imp (pe_dget hu ho hi hs) fun σ H Q ⟨F, ρ, env, S, r, e, h⟩ => ?_
  unfold mP2 at h
  refine ⟨F, ρ, env, S, r, e, h.bnd.imp (fun d S1 h1 v H1 ρ1 x1 r1 v1 => ?_) fun _ _ q => q⟩
  refine ⟨F, ρ1, env, S1, r1, e.xt x1, h1.bnd.imp (fun d2 S2 h2 v2 H2 ρ2 x2 r2 w2 => ?_) fun _ _ q => q.xt x1⟩
  obtain ⟨p, e1, h2⟩ := h2.opt
  obtain ⟨q, e2, h2⟩ := h2.opt
  obtain ⟨z, e3, h3⟩ := h2.opt
  have hp := deref_rep r2 (v1.xt x2) e1
  have hq := deref_rep r2 w2 e2
  unfold tgetP at e3
  split at e3
  · obtain ⟨k, e4, e3⟩ := Option.bind_eq_some_iff.mp e3
    obtain ⟨a, vs, rfl, g1, g2⟩ := hp.dcTI
    obtain ⟨b, rfl, eb⟩ := keyTA hq e4
    rcases g2.val (k := k) with ⟨q1, q2⟩ | ⟨y, w, q1, q2, q3⟩
    · rw [q1] at e3; cases e3
    · rw [q1] at e3
      cases e3
      exact ⟨a, w, rfl, by rw [← q2]; exact .inr ⟨_, _, b, g1, rfl, eb, rfl⟩, fin_op r2 (KV1.xt (x1.trans x2) h3) _ _ Same.rfl' q3⟩
  · cases e3
/-- d.get(k), the key is a tuple -/
def mTGet1 (o i : EM) : EM := fun env S => bnd (o env S) fun v S1 => match v with
  | .p (.dcT kvs) => bnd (i env S1) fun u S2 => match u with
    | .p kp => (keyT kp).bind fun k => some (.ok (.p ((valT kvs k).getD .non)), S2)
    | _ => none
  | _ => none
theorem de_tget1 {o i : Expr} {mo mi : EM} {apos cpos : Pos} (hu : X.A.units + 1 < cLine) (ho : DE X W o mo) (hi : DE X W i mi) (m : M1 X o "get" apos i cpos := by exact ⟨rfl, rfl, rfl, rfl⟩) : DE X W (.Call (.Attribute o "get" apos) [i] [] cpos) (mTGet1 mo mi) := by
  refine PE.imp (pe_dget1 hu ho hi m) fun σ H Q ⟨F, ρ, env, S, r, e, h⟩ => ?_
  unfold mTGet1 at h
  refine ⟨F, ρ, env, S, r, e, h.bnd.imp (fun d S1 h1 v H1 ρ1 x1 r1 v1 => ?_) fun _ _ q => q⟩
  split at h1
  · rename_i kvs
    have v1' : Rep X.K H1 (Bd F ρ1) (.dcT kvs) v := v1
    cases v1' with
    | @dcT a vs _ rd na rD =>
      refine ⟨a, rfl, .inr ⟨vs, rd⟩, F, ρ1, env, S1, r1, e.xt x1, h1.bnd.imp (fun d2 S2 h2 v2 H2 ρ2 x2 r2 w2 => ?_) fun _ _ q => q.xt x1⟩
      split at h2
      · rename_i kp
        obtain ⟨k, e4, h2⟩ := h2.opt
        obtain ⟨b, rfl, eb⟩ := keyT_rep w2 e4
        have rd2 : Rd H2 a (.dT vs) := Rd.mono' x2.hk rd na
        have rD2 : RepT X.K H2 (Bd F ρ2) kvs vs := rD.xt x2
        refine ⟨valV vs k, .inr ⟨vs, k, b, rd2, rfl, eb, rfl⟩, ?_⟩
        have fin := KV1.xt (x1.trans x2) (show KV1 X.K H F ρ Q (.p ((valT kvs k).getD .non)) S2 from h2)
        rcases rD2.val (k := k) with ⟨q1, q2⟩ | ⟨y, w, q1, q2, q3⟩
        · rw [q1] at fin; rw [q2]
          exact fin _ H2 ρ2 Xt.refl r2 .non
        · rw [q1] at fin; rw [q2]
          exact fin _ H2 ρ2 Xt.refl r2 q3
      · exact h2.elim
  · exact h1.elim
end
end Z

end
section
namespace Z
open PySem L2
local macro_rules | `(tactic| tbr_iter [$ts,*]) => `(tactic| simp (disch := first | assumption | omega | decide | (simp only [List.length_map, List.length_cons, List.length_nil, List.length_append, List.length_range, List.length_take, List.length_drop]; omega)) only [ev_var0s, ev_varS, ev_c, dr_p, dr_0, dr_S, pu_pl, pu_pd, pu_pdT, retO_s, ev_mv, fMv_ref, fMvx_s, ev_p1, fP1_ok, fP1d_s, ev_p2, fP2a_ok, fP2a_exc, fP2b_ok, fP2b_exc, fP2c_s, evs_nil, evs_cons, fEa_ok, fEa_exc, fEb_ok, fEb_exc, drs_nil, drs_cons, fDc_s, ev_pn, fPn_ok, fPn_exc, fPd_s, purs_nil, purs_cons, ev_tup, fTup_ok, fTup_exc, fTd_s, ev_lst, fLst_ok, fLst_exc, fLd_s, ev_newL, fNewL_ok, fNewL_exc, fNd_s, ev_newD, ev_and, fAnd_t, fAnd_f, fAnd_exc, ev_or, fOr_t, fOr_f, fOr_exc, ev_not, fNot_b, fNot_exc, ev_if, fIf_t, fIf_f, fIf_exc, ev_tB, ftB_b, ftB_exc, ev_tTr, ftT_ok, ftT_exc, ftTd_s, tr_non, tr_bl, tr_int, tr_tup, tr_lst, tr_0, tr_S, otr_pl, ev_tand, ftAnd_t, ftAnd_f, ftAnd_exc, ev_tor, ftOr_t, ftOr_f, ftOr_exc, ev_tnot, ftNot_b, ftNot_exc, ev_tyes, ev_sl, fSa_ok, fSa_exc, fSb_ok, fSc_ok, fSd_s, evO_n, evO_s, fO_i, ev_ch, fCa_ok, fCb_ok, fCc_t, fCc_f, ev_call, fCall_ok, fCall_exc, fRp_ok, fRp_exc, cv_1, cv_2, cv_3, cv_4, cv_5, fRt_ok, ev_lc, it_seq, fSeq_t, fSeq_l, it_en, fEn_t, fEn_l, it_r1, fR1_ok, it_r2, fR2a_ok, fR2b_ok, it_z, fZa_ok, fZb_t, fZb_l, ev_me, fMa_ok, fMb_t, fMc_ok, fMc_exc, la_0, la_r0, la_S, fPush_s, app_S, ext_S, W_seq, W_pass, Wn_cons, Wn_nil, W_set, wSet_ok, wSet_exc, W_expr, wEx_ok, wEx_exc, W_ret, wRet_ok, wRet_exc, W_if, wIf_t, wIf_f, wIf_exc, W_brk, W_cont, W_raise, W_asg, wAsg_ok, wAsg_exc, wA_s, asg_nm, asg_tp, asg_tpl, asgs_nil, asgs_cons, fAs_s, W_par2, wPa_ok, wPa_exc, wPb_ok, wPb_exc, clr_nil, clr_cons, W_for, wFor_ok, wFor_exc, IQ_nx, IQ_ct, IQ_bk, IQ_rt, IQ_ex, wB_s, lcE1_s, lcE2_t, lcE2_f, lcE3_s, fLm_s, fLt_s, fLc_ok, o_mod, o_fdiv, o_mulR, o_mulL, o_addT, o_addL, o_sumT, o_sumL, o_app, o_ext, cut_map, cut_0j, cut_i, atI_map, atI_i, all_b, any_b, is_t, is_tl, is_ti, is_tb, is_tn, is_ts, is_i, is_ib, is_it, is_il, is_in, is_is, is_b, is_bi, is_bt, is_bl, is_bn, is_bs, tk_map, dp_map, app_map, neP_nn, neP_in, neP_ni, eqP_nn, eqP_in, eqP_ni, neP_bb, eqP_bb, ssm_fold, in_bl, ev_ixo, fIxa_ok, fIxb_bl, fIxc_s, ev_notT, fNotT_ok, fNotTd_s, W_par3, wP3a_ok, wP3b_ok, wP3c_ok, ev_rg1, fG1_ok, ev_rg2, fG2a_ok, fG2b_ok, ev_lstRg, ev_tupRg, ev_newRg, fLR_ok, fTR_ok, fNR_ok, ev_newOf, fNO_ok, fNOd_t, fNOd_l, setS_0, setS_S, W_sub, wS1_ok, wS2_ok, wS3_ok, wS4_s, TQ_nx, TQ_rt, TQ_ex, wTr_hit, wTr_miss, wTr_nil, rv_t, rv_l, rv_map, notIn_key, in_key, SQ_nx, SQ_rt, SQ_bk, SQ_ct, SQ_ex, addP_i, subP_i, negP_i, ltP_i, leP_i, gtP_i, geP_i, isP_n, isP_i, isP_b, isP_t, isP_l, isP_s, isNotP_n, isNotP_i, isNotP_b, isNotP_t, isNotP_l, isNotP_s, isP_bb, isNotP_bb, idxP_t, idxP_l, atI_0, atI_1, atI_2, sliceP_t, sliceP_l, lenP_t, lenP_l, lenP_f, tupleP_t, tupleP_l, listP_t, listP_l, minP_i, maxP_i, intP_i, intP_b, eqP_int, neP_int, List.set_cons_zero, List.set_cons_succ, List.length_cons, List.length_nil, List.map_cons, List.map_nil, List.length_map, List.cons_append, List.nil_append, List.append_nil, Option.map_some, Int.toNat_natCast, Int.reduceToNat, List.getElem?_map, List.getElem?_cons_zero, List.getElem?_cons_succ, List.replicate_zero, List.replicate_succ, Nat.sub_self, Nat.reduceSub, Nat.reduceAdd, Bool.not_true, Bool.not_false, List.take_zero, List.take_succ_cons, and_true, true_and, implies_true, decide_true, decide_false, Int.cast_ofNat_Int, Int.reduceEq, Int.reduceNe, Int.reduceLT, Int.reduceLE, $[$ts:term],*])
/-! ### the machine: dicts walked -/
def KQ (ks : List SM) (Q : FQ) : FQ
  | .nx e, S => Wn ks Q e S
  | .rt v, S => Q (.rt v) S
  | .bk e, S => Q (.bk e) S
  | .ct e, S => Q (.ct e) S
  | .ex _ _, _ => False
section
variable {env : Env} {S S1 S2 S3 : List O} {v u : Val} {x y z : P} {c : Str} {ks : List SM} {Q : FQ}
theorem KQ_nx {e : Env} : KQ ks Q (.nx e) S = Wn ks Q e S := id rfl
theorem KQ_rt : KQ ks Q (.rt v) S = Q (.rt v) S := id rfl
theorem KQ_bk {e : Env} : KQ ks Q (.bk e) S = Q (.bk e) S := id rfl
theorem KQ_ct {e : Env} : KQ ks Q (.ct e) S = Q (.ct e) S := id rfl
theorem W_dropEx {m : SM} (h2 : W m [] (KQ ks Q) env S) : Wr ks Q (dropEx (m env S)) := by
  unfold W at h2
  generalize m env S = R at h2 ⊢
  match R, h2 with
  | none, h2 => exact h2.elim
  | some (.nx e, S1), h2 => exact h2
  | some (.rt v, S1), h2 => exact (Wr_rt (ks := ks) (Q := Q)).mpr h2
  | some (.bk e, S1), h2 => exact (Wr_bk (ks := ks) (Q := Q)).mpr h2
  | some (.ct e, S1), h2 => exact (Wr_ct (ks := ks) (Q := Q)).mpr h2
  | some (.ex c e, S1), h2 => exact h2.elim
theorem W_forK {t : Tg} {i : Nat} {b : SM} {cl : List Nat} {kvs : List (Key × P)} (h : env[i]? = some (some (.p (.dct kvs)))) (h2 : W (forL t b cl (kvs.map fun kv => keyP kv.1)) [] (KQ ks Q) env S) : W (sForK t i b cl) ks Q env S := by
  have := W_dropEx h2
  unfold W sForK
  rw [h]
  exact this
def fFzE (o : Out Val) : Out Val := bnd o fun v S1 => match v with
  | .ref j => ((S1[j]?).bind O.pure).bind fun x => some (.ok (.p x), S1.set j .gone)
  | _ => none
theorem ev_fzE {m : EM} : mFzE m env S = fFzE (m env S) := id rfl
theorem fFzE_ref {j : Nat} : fFzE (some (.ok (.ref j), S)) = fMvx (deref S (.ref j)) (S.set j .gone) := id rfl
theorem W_fz2 {i j : Nat} {b : SM} (h1 : env[i]? = some (some (.ref j))) (h2 : deref S (.ref j) = some x) : W (sFz i b) ks Q env S = W b ks Q (env.set i (some (.p x))) (S.set j .gone) := by
  unfold W sFz
  rw [h1]
  have h2 : (S[j]?).bind O.pure = some x := h2
  show Wr ks Q (((S[j]?).bind O.pure).bind fun x => b (List.set env i (some (Val.p x))) (S.set j O.gone)) = _
  rw [h2]; rfl
def fDg1 (i z : EM) (env : Env) (o : Out Val) : Out Val := bnd o fun v S1 => match v with
  | .p (.dct kvs) => bnd (i env S1) fun u S2 => bnd (z env S2) fun w S3 => match u, w with
    | .p kp, .p x => (keyOf kp).bind fun k => some (.ok (.p ((valP kvs k).getD x)), S3)
    | _, _ => none
  | _ => none
def fDg2 (kvs : List (Key × P)) (z : EM) (env : Env) (o : Out Val) : Out Val := bnd o fun u S2 => bnd (z env S2) fun w S3 => match u, w with
    | .p kp, .p x => (keyOf kp).bind fun k => some (.ok (.p ((valP kvs k).getD x)), S3)
    | _, _ => none
def fDg3 (kvs : List (Key × P)) (k : Int) (o : Out Val) : Out Val := bnd o fun w S3 => match w with
    | .p x => some (.ok (.p ((valP kvs (.inl k)).getD x)), S3)
    | _ => none
theorem ev_dget2 {o i z : EM} : mDGet2 o i z env S = fDg1 i z env (o env S) := id rfl
theorem fDg1_ok {i z : EM} {kvs : List (Key × P)} : fDg1 i z env (some (.ok (.p (.dct kvs)), S)) = fDg2 kvs z env (i env S) := id rfl
theorem fDg2_ok {z : EM} {kvs : List (Key × P)} {k : Int} : fDg2 kvs z env (some (.ok (.p (.int k)), S)) = fDg3 kvs k (z env S) := by
  unfold fDg2 fDg3
  rw [bnd_ok]
  congr 1
  funext w S3
  cases w <;> rfl
theorem fDg3_ok {kvs : List (Key × P)} {k : Int} : fDg3 kvs k (some (.ok (.p x), S)) = some (.ok (.p ((valP kvs (.inl k)).getD x)), S) := id rfl
end
end Z

end
section
namespace Z
open PySem PySem.Spec PyProof.Rows L2
/-! ### loops over the keys of a dict whose keys are tuples -/
def flat : P → Bool
  | .non => true
  | .bl _ => true
  | .int _ => true
  | .str _ => true
  | _ => false
mutual
def flT : Tg → P → Bool
  | .nm _, x => flat x
  | .tp ts, .tup xs => flTs ts xs
  | .tp _, _ => false
def flTs : List Tg → List P → Bool
  | [], [] => true
  | t :: ts, x :: xs => flT t x && flTs ts xs
  | _, _ => false
end
def AsF (en env : Env) (sl : List Nat) : Prop := ∀ (i : Nat) (d : Val), en[i]? = some (some d) → (i ∉ sl ∧ env[i]? = some (some d)) ∨ ∃ p, d = .p p ∧ flat p = true
mutual
theorem asg_flat : ∀ (t : Tg) (x : P) (env en : Env), asg t x env = some en → flT t x = true → AsF en env t.slots
  | .nm k, x, env, en, h, hf => by
    simp only [asg] at h
    cases h
    intro i d hi
    by_cases q : k = i
    · subst q
      rw [List.getElem?_set] at hi
      simp only [if_true] at hi
      split at hi
      · cases hi; exact .inr ⟨x, rfl, by simpa [flT] using hf⟩
      · cases hi
    · rw [List.getElem?_set_ne q] at hi
      exact .inl ⟨by simp [Tg.slots]; exact fun e => q e.symm, hi⟩
  | .tp ts, .tup xs, env, en, h, hf => by
    simp only [asg] at h
    simp only [flT] at hf
    simp only [Tg.slots]
    exact asgs_flat ts xs env en h hf
  | .tp _, .non, _, _, _, hf => by simp [flT] at hf
  | .tp _, .bl _, _, _, _, hf => by simp [flT] at hf
  | .tp _, .int _, _, _, _, hf => by simp [flT] at hf
  | .tp _, .str _, _, _, _, hf => by simp [flT] at hf
  | .tp _, .lst _, _, _, _, hf => by simp [flT] at hf
  | .tp _, .fz _, _, _, _, hf => by simp [flT] at hf
  | .tp _, .dct _, _, _, _, hf => by simp [flT] at hf
  | .tp _, .dcT _, _, _, _, hf => by simp [flT] at hf
theorem asgs_flat : ∀ (ts : List Tg) (xs : List P) (env en : Env), asgs ts xs env = some en → flTs ts xs = true → AsF en env (slotsL ts)
  | [], [], env, en, h, _ => by
    simp only [asgs] at h
    cases h
    exact fun i d hi => .inl ⟨by simp [slotsL], hi⟩
  | t :: ts, x :: xs, env, en, h, hf => by
    simp only [asgs] at h
    obtain ⟨mid, h1, h2⟩ := Option.bind_eq_some_iff.mp h
    simp only [flTs, Bool.and_eq_true] at hf
    have a1 := asg_flat t x env mid h1 hf.1
    have a2 := asgs_flat ts xs mid en h2 hf.2
    intro i d hi
    rcases a2 i d hi with ⟨n2, hm⟩ | z
    · rcases a1 i d hm with ⟨n1, he⟩ | z
      · exact .inl ⟨by simp only [slotsL, List.mem_append]; exact fun q => q.elim n1 n2, he⟩
      · exact .inr z
    · exact .inr z
  | [], _ :: _, _, _, h, _ => by simp [asgs] at h
  | _ :: _, [], _, _, h, _ => by simp [asgs] at h
end
section
variable {K : PySem.W.Frag} {H H' : Hp} {F F' : Dom} {ρ : Rho} {S : List O} {env en : Env} {σ σ2 : L2.St}
theorem flat_rep {B B' : Dom} {p : P} {v : V} (hp : flat p = true) (h : Rep K H B p v) : Rep K H B' p v := by
  cases h with
  | non => exact .non
  | bl b => exact .bl b
  | int b => exact .int b
  | str b => exact .str b
  | tup _ _ _ => cases hp
  | lst _ _ _ => cases hp
  | fz _ => cases hp
  | dct _ _ _ => cases hp
  | dcT _ _ _ => cases hp
theorem RE.back {sl : List Nat} (e : RE K H F ρ env σ) (e2 : RE K H F' ρ en σ2) (ha : AsF en env sl) (hs : ∀ i : Nat, i ∉ sl → σ2[i]? = σ[i]?) : RE K H F ρ en σ2 :=
  ⟨e2.len, fun i d h => by
    rcases ha i d h with ⟨h1, h2⟩ | ⟨p, rfl, hp⟩
    · obtain ⟨v, g1, g2⟩ := e.get i d h2
      exact ⟨v, by rw [hs i h1]; exact g1, g2⟩
    · obtain ⟨v, g1, g2⟩ := e2.get i _ h
      exact ⟨v, g1, flat_rep (B := Bd F' ρ) hp g2⟩⟩
theorem RE.sub (e : RE K H F ρ env σ) : RE K H (fun _ => False) ρ env σ := ⟨e.len, fun i d h => by
  obtain ⟨v, g1, g2⟩ := e.get i d h
  refine ⟨v, g1, ?_⟩
  cases d with
  | p x => exact Rep.mono (fun _ _ e _ => e) (fun b q => .inl (q.elim (fun z => z.elim) fun z => .inr z)) (show Rep K H (Bd F ρ) x v from g2)
  | ref i => exact g2⟩
/-- no thing of the frame is a tuple -/
theorem Rl.notup (r : Rl K H F ρ S) {b : Addr} (hb : some b ∈ ρ) (vs : List V) : H b ≠ some (.tup vs) := fun e => by
  obtain ⟨i, hi⟩ := mem_rho.mp hb
  have hl := (List.getElem?_eq_some_iff.mp hi).1
  rw [r.len] at hl
  have ob := r.ob i b _ hi (List.getElem?_eq_getElem hl)
  cases q : S[i] with
  | gone => rw [q] at ob; exact ob
  | pl xs => rw [q] at ob; obtain ⟨_, h, _⟩ := ob; rw [e] at h; cases h
  | rl xs => rw [q] at ob; obtain ⟨_, h, _⟩ := ob; rw [e] at h; cases h
  | pd xs => rw [q] at ob; obtain ⟨_, h, _⟩ := ob; rw [e] at h; cases h
  | pdT xs => rw [q] at ob; obtain ⟨_, h, _⟩ := ob; rw [e] at h; cases h
end
structure ItOkT (K : PySem.W.Frag) (H0 : Hp) (B0 : Dom) (J : It) (xs : List P) : Prop where
  go : ∀ i H, Kp H0 B0 H → i < xs.length → J.go i H
  st : ∀ i H, Kp H0 B0 H → xs.length ≤ i → J.stop i H
  yl : ∀ i H x H' p, Kp H0 B0 H → xs[i]? = some p → J.yld i H x H' → Same H H' ∧ ∀ B : Dom, (∀ b vs, B b → H' b ≠ some (.tup vs)) → Rep K H' B p x
section
variable {X : Cx} {W : WX}
theorem for_coreT {t : Tg} {b : SM} {cl : List Nat} {D : Ends} {σ : L2.St} {H : Hp} {F : Dom} {ρ : Rho} {env : Env} {S : List O} {J : It} {xs : List P} (r : Rl X.K H F ρ S) (e : RE X.K H F ρ env σ) (it : ItOkT X.K H (Bd F ρ) J xs) (hf : ∀ x ∈ xs, flT t x = true)
    (h1 : AnsS (forL t b cl xs env S) (KE1 X.K H F ρ D.nx) (KV1 X.K H F ρ D.rt) (KE1 X.K H F ρ D.bk) (KE1 X.K H F ρ D.ct) (KXS X.K X.mg H F ρ W)) : tFor (fun _ _ R => R J H) (TGx X.K t) (TSx X.K X.mg W b) D σ H := by
  refine ⟨fun i m σ' H' => m = xs.length - i ∧ i ≤ xs.length ∧ ∃ ρ' env' S', Xt H ρ H' ρ' ∧ Rl X.K H' F ρ' S' ∧ RE X.K H' F ρ' env' σ' ∧
    AnsS (forL t b cl (xs.drop i) env' S') (KE1 X.K H F ρ D.nx) (KV1 X.K H F ρ D.rt) (KE1 X.K H F ρ D.bk) (KE1 X.K H F ρ D.ct) (KXS X.K X.mg H F ρ W),
    ⟨_, rfl, Nat.zero_le _, ρ, env, S, Xt.refl, r, e, h1⟩, ?_⟩
  rintro i m σ' H' ⟨rfl, hi, ρ', env', S', x', r', e', a'⟩
  have k' : Kp H (Bd F ρ) H' := x'.hk
  by_cases hlt : i < xs.length
  · rw [List.drop_eq_getElem_cons hlt] at a'
    obtain ⟨en, e1, a'⟩ := AnsS.opt (show AnsS ((asg t xs[i] env').bind fun e => match b e S' with
      | some (.nx e', S') => forL t b cl (xs.drop (i + 1)) (clr cl e') S'
      | some (.ct e', S') => forL t b cl (xs.drop (i + 1)) (clr cl e') S'
      | some (.bk e', S') => some (.nx e', S')
      | r => r) _ _ _ _ _ from a')
    refine .inr ⟨it.go i H' k' hlt, fun σ2 H2 => i + 1 ≤ xs.length ∧ ∃ ρ' env' S', Xt H ρ H2 ρ' ∧ Rl X.K H2 F ρ' S' ∧ RE X.K H2 F ρ' env' σ2 ∧
      AnsS (forL t b cl (xs.drop (i + 1)) env' S') (KE1 X.K H F ρ D.nx) (KV1 X.K H F ρ D.rt) (KE1 X.K H F ρ D.bk) (KE1 X.K H F ρ D.ct) (KXS X.K X.mg H F ρ W), fun σ2 H2 q => ⟨xs.length - (i + 1), by omega, rfl, q⟩, fun x H2 y => ?_⟩
    obtain ⟨s2, rp⟩ := it.yl i H' x H2 xs[i] k' (by simp [hlt]) y
    have r2 := r'.grow s2
    have rx := rp (Bd (fun _ => False) ρ') (fun b vs hb => hb.elim (fun z => z.elim) fun z => r2.notup z vs)
    have x2 : Xt H' ρ' H2 ρ' := Xt.grow s2
    have e2 := e'.xt x2
    refine ⟨fun _ => False, ρ', env', xs[i], en, e2.sub, rx, e1, fun σ2 he2 _ hsl => ⟨F, ρ', en, S', r2, e2.back he2 (asg_flat t _ env' en e1 (hf _ (List.getElem_mem hlt))) hsl, ?_⟩⟩
    have xx : Xt H ρ H2 ρ' := x'.trans x2
    have again : ∀ {e2 : Env} {S2 : List O}, AnsS (forL t b cl (xs.drop (i + 1)) (clr cl e2) S2) (KE1 X.K H F ρ D.nx) (KV1 X.K H F ρ D.rt) (KE1 X.K H F ρ D.bk) (KE1 X.K H F ρ D.ct) (KXS X.K X.mg H F ρ W) →
        KE1 X.K H2 F ρ' (fun σ2 H2 => i + 1 ≤ xs.length ∧ ∃ ρ' env' S', Xt H ρ H2 ρ' ∧ Rl X.K H2 F ρ' S' ∧ RE X.K H2 F ρ' env' σ2 ∧
      AnsS (forL t b cl (xs.drop (i + 1)) env' S') (KE1 X.K H F ρ D.nx) (KV1 X.K H F ρ D.rt) (KE1 X.K H F ρ D.bk) (KE1 X.K H F ρ D.ct) (KXS X.K X.mg H F ρ W)) e2 S2 := fun {e2 S2} a2 σ3 H3 ρ3 x3 r3 e3 =>
      ⟨hlt, ρ3, _, S2, xx.trans x3, r3, e3.clr, a2⟩
    match q : b en S', a' with
    | some (.nx e2, S2), a' => exact again a'
    | some (.ct e2, S2), a' => exact again a'
    | some (.bk e2, S2), a' => exact KE1.xt xx a'
    | some (.rt v, S2), a' => exact KV1.xt xx a'
    | some (.ex c e2, S2), a' => exact KXS.xt xx a'
  · have hd : xs.drop i = [] := List.drop_eq_nil_of_le (Nat.le_of_not_lt hlt)
    rw [hd] at a'
    exact .inl ⟨it.st i H' k' (Nat.le_of_not_lt hlt), (show KE1 X.K H F ρ D.nx env' S' from a') σ' H' ρ' x' r' e'⟩
theorem keysP_rep {K : PySem.W.Frag} {H : Hp} {B : Dom} : ∀ ks : List Key, RepL K H B (ks.map keyP) (ks.map kV)
  | [] => .nil
  | k :: ks => .cons (keyP_rep k) (keysP_rep ks)
theorem RepT.keys {K : PySem.W.Frag} {H : Hp} {B : Dom} : ∀ {xs : List (List Key × P)} {vs : List (List Key × V)}, RepT K H B xs vs → vs.map (·.1) = xs.map (·.1)
  | _, _, .nil => rfl
  | _, _, .cons _ t => by rw [List.map_cons, List.map_cons, RepT.keys t]
theorem itok_keysT {K : PySem.W.Frag} {H0 : Hp} {B0 : Dom} {a : Addr} {o : Obj} {vs : List (List Key × V)} {xs : List (List Key × P)} (h : H0 a = some (.frz o (.dT vs))) (n : ¬ B0 a) (r : RepT K H0 B0 xs vs) : ItOkT K H0 B0 (Itkt a o vs) (xs.map fun kv => .tup (kv.1.map keyP)) := by
  have hl : xs.length = vs.length := r.length
  refine ⟨fun i H k hi => ?_, fun i H k hi => ?_, fun i H x H' p k e y => ?_⟩
  · rw [List.length_map] at hi
    exact ⟨k a _ h n, by omega⟩
  · rw [List.length_map] at hi
    exact ⟨k a _ h n, by omega⟩
  · obtain ⟨rfl, kk, v, q, h1, rfl, h3⟩ := y
    refine ⟨fun _ _ e => e, fun B hB => ?_⟩
    have h2 : (xs.map (·.1))[i]? = some kk := by rw [← r.keys, List.getElem?_map, h1]; rfl
    rw [List.getElem?_map] at e h2
    cases q2 : xs[i]? with
    | none => rw [q2] at e; cases e
    | some z =>
      rw [q2] at e h2
      cases e
      have : z.1 = kk := by simpa using h2
      subst this
      exact .tup h3 (fun z => hB q _ z h3) (keysP_rep z.1)
/-- for x, y in NAME, the name holds a plain dict whose keys are tuples -/
def sForT (t : Tg) (i : Nat) (b : SM) (cl : List Nat) : SM := fun env S => match env[i]? with
  | some (some (.p (.dcT kvs))) => if (kvs.all fun kv => flT t (.tup (kv.1.map keyP))) = true then dropEx (forL t b cl (kvs.map fun kv => .tup (kv.1.map keyP)) env S) else none
  | _ => none
theorem lk_lockT {d : Addr} {H : Hp} {od : Obj} {vs : List (List Key × V)} (h : H d = some (.dT vs)) : LkAt d H (upd H d (.frz od (.dT vs))) := ⟨fun b n => (upd_ne n).symm, .dT vs, trivial, .inl h, .inr ⟨od, upd_same⟩⟩
theorem ds_forT (i : Nat) {x : Str} {p0 pos : Pos} {tg : Expr} {body : List Stmt} {t : Tg} {b : SM} (cl : List Nat) (hp : PassesOwn (model X.prog X.w) X.A X.env X.xe) (hg : DG X tg t) (hb : DSs X W body b) (hN : X.N[i]? = some x := by rfl) (hv : Vis X.env.scope x := by first | exact Or.inl rfl | exact Or.inr (Or.inl rfl) | exact Or.inr (Or.inr rfl)) (hd : (x == ("__debug__" : Str)) = false := by decide)
    (hcd : (x == ("__classdict__" : Str)) = false := by decide) (hc : X.calm = true := by rfl) (hs : ∀ y, foldedSetIterable (.Name x p0) X.env y = pure y := by intro _; rfl) : DS X W (.For tg (.Name x p0) body [] pos) (sForT t i b cl) := by
  have base := ps_for (pos := pos) hp hc (pi_keys (tg := tg) (pe_var (pos := p0) hN hv hd hcd)) hg hb hs
  refine PS.imp (ps_or (ps_lock base) base) fun D σ H ⟨F, ρ, env, S, r, e, h⟩ => ?_
  unfold sForT at h
  split at h
  · rename_i kvs hk
    split at h
    case isFalse => exact h.elim
    rename_i hfl
    have hfl2 : ∀ x ∈ kvs.map (fun kv => P.tup (kv.1.map keyP)), flT t x = true := fun x hx => by
      obtain ⟨kv, g1, rfl⟩ := List.mem_map.mp hx
      exact List.all_eq_true.mp hfl kv g1
    obtain ⟨v, h1, h2⟩ := e.get i _ hk
    have h2 : Rep X.K H (Bd F ρ) (.dcT kvs) v := h2
    cases h2 with
    | @dcT a vs _ rd na rD =>
      rcases rd with rd | ⟨o, rd⟩
      · refine .inl ⟨a, .dT vs, rd, trivial, fun od => ?_⟩
        have lk := lk_lockT (od := od) rd
        have nr : some a ∉ ρ := fun q => na (.inr q)
        have un : ∀ {H' : Hp} {ρ' : Rho}, Xt (upd H a (.frz od (.dT vs))) ρ H' ρ' → H' a = some (.frz od (.dT vs)) ∧ Xt H ρ (upd H' a (.dT vs)) ρ' ∧ LkAt a H' (upd H' a (.dT vs)) ∧ ¬ Bd F ρ' a := fun {H' ρ'} x => by
          have e1 := x.keep a _ upd_same nr
          refine ⟨e1, ⟨fun b o eb nb => ?_, fun b hb => ?_, x.len, fun k c hc => ?_⟩, ⟨fun b n => (upd_ne n).symm, .dT vs, trivial, .inr ⟨od, e1⟩, .inl upd_same⟩, fun q => ?_⟩
          · by_cases q : b = a
            · subst q; rw [rd] at eb; cases eb; exact upd_same
            · rw [upd_ne q]; exact x.keep b o (by rw [upd_ne q]; exact eb) nb
          · by_cases q : b = a
            · subst q; rw [upd_same]; simp
            · rw [upd_ne q]; exact x.stay b (by rw [upd_ne q]; exact hb)
          · rcases x.old k c hc with z | ⟨z1, z2⟩
            · exact .inl z
            · refine .inr ⟨z1, ?_⟩
              by_cases q : c = a
              · subst q; rw [upd_same] at z2; cases z2
              · rw [upd_ne q] at z2; exact z2
          · rcases x.hb (F := F) a q with z | z
            · exact na z
            · rw [upd_same] at z; cases z
        refine ⟨.ref a, h1, a, od, rfl, .inr ⟨vs, upd_same, ?_⟩⟩
        refine for_coreT (cl := cl) (r.lk lk na) (e.lk lk) (itok_keysT upd_same na (rD.lk lk)) hfl2 ?_
        have kE : ∀ {k : L2.St → Hp → Prop} {e2 : Env} {S2 : List O}, KE1 X.K H F ρ k e2 S2 → KE1 X.K (upd H a (.frz od (.dT vs))) F ρ (fun σ' H' => H' a = some (.frz od (.dT vs)) ∧ k σ' (upd H' a (.dT vs))) e2 S2 := fun {k e2 S2} hk σ' H' ρ' x' r' e' => by
          obtain ⟨u1, u2, u3, u4⟩ := un x'
          exact ⟨u1, hk σ' _ ρ' u2 (r'.lk u3 u4) (e'.lk u3)⟩
        have kV : ∀ {k : VK} {v2 : Val} {S2 : List O}, KV1 X.K H F ρ k v2 S2 → KV1 X.K (upd H a (.frz od (.dT vs))) F ρ (fun v H' => H' a = some (.frz od (.dT vs)) ∧ k v (upd H' a (.dT vs))) v2 S2 := fun {k v2 S2} hk v H' ρ' x' r' e' => by
          obtain ⟨u1, u2, u3, u4⟩ := un x'
          exact ⟨u1, hk v _ ρ' u2 (r'.lk u3 u4) (e'.lk u3)⟩
        unfold dropEx at h
        generalize forL t b cl (kvs.map fun kv => .tup (kv.1.map keyP)) env S = R at h ⊢
        match R, h with
        | some (.nx e2, S2), h => exact kE h
        | some (.rt v2, S2), h => exact kV h
        | some (.bk e2, S2), h => exact kE h
        | some (.ct e2, S2), h => exact kE h
        | some (.ex c2 e2, S2), h => exact h.elim
        | none, h => exact h.elim
      · refine .inr ⟨.ref a, h1, a, o, rfl, .inr ⟨vs, rd, ?_⟩⟩
        refine for_coreT (cl := cl) r e (itok_keysT rd na rD) hfl2 ?_
        unfold dropEx at h
        split at h
        · exact h.elim
        · exact h
  · exact h.elim
/-! ### a, b, c, d = w, x, y, z: the names may get things -/
def setAll : List Nat → List Val → Env → Option Env
  | [], [], env => some env
  | i :: is, v :: vs, env => setAll is vs (env.set i (some v))
  | _, _, _ => none
def setV : List Nat → List V → L2.St → Option L2.St
  | [], [], σ => some σ
  | i :: is, v :: vs, σ => setV is vs (σ.set i (some v))
  | _, _, _ => none
def sParN (is : List Nat) (ms : List EM) : SM := fun env S => stm env (evs ms env S) fun vs S1 => (setAll is vs env).bind fun e => some (.nx e, S1)
def gNames (is : List Nat) : TGs := fun vs σ H Q => ∃ σ', setV is vs σ = some σ' ∧ Q σ' H
abbrev DGn (X : Cx) (es : List Expr) (is : List Nat) : Prop := PGs X es (gNames is)
theorem setAll_len : ∀ {is : List Nat} {vs : List Val} {env en : Env}, setAll is vs env = some en → vs.length = is.length
  | [], [], _, _, _ => rfl
  | i :: is, v :: vs, env, en, h => congrArg (· + 1) (setAll_len (is := is) (vs := vs) (env := env.set i (some v)) (en := en) h)
  | [], _ :: _, _, _, h => by cases h
  | _ :: _, [], _, _, h => by cases h
theorem setAll_re {K : PySem.W.Frag} {H : Hp} {F : Dom} {ρ : Rho} : ∀ {is : List Nat} {ds : List Val} {vs : List V} {env en : Env} {σ : L2.St}, RE K H F ρ env σ → RVs K H F ρ ds vs → setAll is ds env = some en → ∃ σ', setV is vs σ = some σ' ∧ RE K H F ρ en σ'
  | [], [], _, _, _, σ, e, .nil, h => by cases h; exact ⟨σ, rfl, e⟩
  | i :: is, _ :: _, _, _, _, σ, e, .cons hv ht, h => setAll_re (is := is) (e.set (i := i) hv) ht h
  | [], _ :: _, _, _, _, _, _, _, h => by cases h
  | _ :: _, [], _, _, _, _, _, _, h => by cases h
theorem dgn_nil : DGn X [] [] := ⟨fun pins s σ H vs us Q I r h => by
  obtain ⟨σ', h1, h2⟩ := h
  cases vs with
  | nil => cases h1; exact pgs_nil.run pins s σ H [] us Q I r ⟨rfl, h2⟩
  | cons v vs => cases h1⟩
theorem dgn_cons (i : Nat) {x : Str} {p0 : Pos} {es : List Expr} {is : List Nat} (hN : X.N.Nodup) (h2 : DGn X es is) (hi : X.N[i]? = some x := by rfl) (hx : Loc X.env.scope x := by first | exact Or.inl rfl | exact Or.inr rfl) (hf : X.fn x = true ∨ X.env.scope.names.lookup x = some .local := by first | exact .inl rfl | exact .inr rfl | assumption)
    (hs : (assignEach (.Name x p0 :: es) X.env).map (·.2) = assign (.Name x p0) X.env :: (assignEach es X.env).map (·.2) := by rfl) : DGn X (.Name x p0 :: es) (i :: is) := ⟨fun pins s σ H vs us Q I r h => by
  obtain ⟨σ', h1, h3⟩ := h
  cases vs with
  | nil => cases h1
  | cons v vs => exact (pgs_cons (pg_name hN hi hx hf) h2 hs).run pins s σ H (v :: vs) us Q I r ⟨v, vs, rfl, σ', h1, h3⟩⟩
theorem ds_parN {ns es : List Expr} {is : List Nat} {ms : List EM} {pos pt pt2 : Pos} {kt k2 : Nat} (ha : DA X W es ms) (hg : DGn X ns is) (hc : X.calm = true := by rfl) (hl : ms.length ≤ 1000 := by exact Nat.le_of_ble_eq_true rfl)
    (hn : (assignEach ns X.env).length = is.length := by rfl) (hst : (assignEach ns X.env).findIdx? (·.1) = none := by rfl)
    (hs : swapsWithSole [.Tuple ns kt pt] (.Tuple es k2 pt2) pos.line X.env = pure false := by rfl) (hw : swappedStores [.Tuple ns kt pt] (.Tuple es k2 pt2) X.env = pure none := by rfl)
    (h1 : (assignEach [.Tuple ns kt pt] X.env).map (·.2) = [assign (.Tuple ns kt pt) X.env] := by rfl) : DS X W (.Assign [.Tuple ns kt pt] (.Tuple es k2 pt2) pos) (sParN is ms) := by
  refine PS.imp (ps_asg (pe_tup ha) (pg_tup hc hg hn hst) hs hw h1) fun D σ H ⟨F, ρ, env, S, r, e, h⟩ => ?_
  unfold sParN at h
  refine ⟨F, ρ, env, S, r, e, (ans_eq h.stm).imp (fun ds S1 h1 vs H1 ρ1 x1 r1 v1 => ?_) fun _ _ q => KXS.one e q⟩
  obtain ⟨e0, h1⟩ := h1
  obtain ⟨en, e1, h2⟩ := h1.opt
  refine ⟨?_, fun p np => ?_⟩
  · rw [← v1.length, evs_length e0]; exact len1000 hl
  · have s := Same.upd (o := .tup vs) np
    obtain ⟨σ', g1, g2⟩ := setAll_re ((e.xt x1).xt (Xt.grow s)) (v1.xt (Xt.grow s)) e1
    refine ⟨p, vs, rfl, SqT.of upd_same, by rw [← v1.length]; exact setAll_len e1, σ', g1, ?_⟩
    exact (show KE1 X.K H F ρ D.nx en S1 from h2) σ' _ ρ1 (x1.trans (Xt.grow s)) (r1.grow s) g2
end
end Z

end
section
namespace Z
open PySem L2
local macro_rules | `(tactic| tbr_iter [$ts,*]) => `(tactic| simp (disch := first | assumption | omega | decide | (simp only [List.length_map, List.length_cons, List.length_nil, List.length_append, List.length_range, List.length_take, List.length_drop]; omega)) only [ev_var0s, ev_varS, ev_c, dr_p, dr_0, dr_S, pu_pl, pu_pd, pu_pdT, retO_s, ev_mv, fMv_ref, fMvx_s, ev_p1, fP1_ok, fP1d_s, ev_p2, fP2a_ok, fP2a_exc, fP2b_ok, fP2b_exc, fP2c_s, evs_nil, evs_cons, fEa_ok, fEa_exc, fEb_ok, fEb_exc, drs_nil, drs_cons, fDc_s, ev_pn, fPn_ok, fPn_exc, fPd_s, purs_nil, purs_cons, ev_tup, fTup_ok, fTup_exc, fTd_s, ev_lst, fLst_ok, fLst_exc, fLd_s, ev_newL, fNewL_ok, fNewL_exc, fNd_s, ev_newD, ev_and, fAnd_t, fAnd_f, fAnd_exc, ev_or, fOr_t, fOr_f, fOr_exc, ev_not, fNot_b, fNot_exc, ev_if, fIf_t, fIf_f, fIf_exc, ev_tB, ftB_b, ftB_exc, ev_tTr, ftT_ok, ftT_exc, ftTd_s, tr_non, tr_bl, tr_int, tr_tup, tr_lst, tr_0, tr_S, otr_pl, ev_tand, ftAnd_t, ftAnd_f, ftAnd_exc, ev_tor, ftOr_t, ftOr_f, ftOr_exc, ev_tnot, ftNot_b, ftNot_exc, ev_tyes, ev_sl, fSa_ok, fSa_exc, fSb_ok, fSc_ok, fSd_s, evO_n, evO_s, fO_i, ev_ch, fCa_ok, fCb_ok, fCc_t, fCc_f, ev_call, fCall_ok, fCall_exc, fRp_ok, fRp_exc, cv_1, cv_2, cv_3, cv_4, cv_5, fRt_ok, ev_lc, it_seq, fSeq_t, fSeq_l, it_en, fEn_t, fEn_l, it_r1, fR1_ok, it_r2, fR2a_ok, fR2b_ok, it_z, fZa_ok, fZb_t, fZb_l, ev_me, fMa_ok, fMb_t, fMc_ok, fMc_exc, la_0, la_r0, la_S, fPush_s, app_S, ext_S, W_seq, W_pass, Wn_cons, Wn_nil, W_set, wSet_ok, wSet_exc, W_expr, wEx_ok, wEx_exc, W_ret, wRet_ok, wRet_exc, W_if, wIf_t, wIf_f, wIf_exc, W_brk, W_cont, W_raise, W_asg, wAsg_ok, wAsg_exc, wA_s, asg_nm, asg_tp, asg_tpl, asgs_nil, asgs_cons, fAs_s, W_par2, wPa_ok, wPa_exc, wPb_ok, wPb_exc, clr_nil, clr_cons, W_for, wFor_ok, wFor_exc, IQ_nx, IQ_ct, IQ_bk, IQ_rt, IQ_ex, wB_s, lcE1_s, lcE2_t, lcE2_f, lcE3_s, fLm_s, fLt_s, fLc_ok, o_mod, o_fdiv, o_mulR, o_mulL, o_addT, o_addL, o_sumT, o_sumL, o_app, o_ext, cut_map, cut_0j, cut_i, atI_map, atI_i, all_b, any_b, is_t, is_tl, is_ti, is_tb, is_tn, is_ts, is_i, is_ib, is_it, is_il, is_in, is_is, is_b, is_bi, is_bt, is_bl, is_bn, is_bs, tk_map, dp_map, app_map, neP_nn, neP_in, neP_ni, eqP_nn, eqP_in, eqP_ni, neP_bb, eqP_bb, ssm_fold, in_bl, ev_ixo, fIxa_ok, fIxb_bl, fIxc_s, ev_notT, fNotT_ok, fNotTd_s, W_par3, wP3a_ok, wP3b_ok, wP3c_ok, ev_rg1, fG1_ok, ev_rg2, fG2a_ok, fG2b_ok, ev_lstRg, ev_tupRg, ev_newRg, fLR_ok, fTR_ok, fNR_ok, ev_newOf, fNO_ok, fNOd_t, fNOd_l, setS_0, setS_S, W_sub, wS1_ok, wS2_ok, wS3_ok, wS4_s, TQ_nx, TQ_rt, TQ_ex, wTr_hit, wTr_miss, wTr_nil, rv_t, rv_l, rv_map, notIn_key, in_key, SQ_nx, SQ_rt, SQ_bk, SQ_ct, SQ_ex, addP_i, subP_i, negP_i, ltP_i, leP_i, gtP_i, geP_i, isP_n, isP_i, isP_b, isP_t, isP_l, isP_s, isNotP_n, isNotP_i, isNotP_b, isNotP_t, isNotP_l, isNotP_s, isP_bb, isNotP_bb, idxP_t, idxP_l, atI_0, atI_1, atI_2, sliceP_t, sliceP_l, lenP_t, lenP_l, lenP_f, tupleP_t, tupleP_l, listP_t, listP_l, minP_i, maxP_i, intP_i, intP_b, eqP_int, neP_int, List.set_cons_zero, List.set_cons_succ, List.length_cons, List.length_nil, List.map_cons, List.map_nil, List.length_map, List.cons_append, List.nil_append, List.append_nil, Option.map_some, Int.toNat_natCast, Int.reduceToNat, List.getElem?_map, List.getElem?_cons_zero, List.getElem?_cons_succ, List.replicate_zero, List.replicate_succ, Nat.sub_self, Nat.reduceSub, Nat.reduceAdd, Bool.not_true, Bool.not_false, List.take_zero, List.take_succ_cons, and_true, true_and, implies_true, decide_true, decide_false, Int.cast_ofNat_Int, Int.reduceEq, Int.reduceNe, Int.reduceLT, Int.reduceLE, $[$ts:term],*])
/-! ### the machine: dicts whose keys are pairs -/
section
variable {env : Env} {S S1 S2 S3 : List O} {v u : Val} {x y z : P} {c : Str} {ks : List SM} {Q : FQ}
theorem W_forT {t : Tg} {i : Nat} {b : SM} {cl : List Nat} {kvs : List (List Key × P)} (h : env[i]? = some (some (.p (.dcT kvs)))) (hf : (kvs.all fun kv => flT t (.tup (kv.1.map keyP))) = true) (h2 : W (forL t b cl (kvs.map fun kv => .tup (kv.1.map keyP))) [] (KQ ks Q) env S) : W (sForT t i b cl) ks Q env S := by
  have := W_dropEx h2
  unfold W sForT
  rw [h]
  show Wr ks Q (if _ then _ else _)
  rw [if_pos hf]
  exact this
theorem ev_newT : mNewT env S = some (.ok (.ref S.length), S ++ [.pdT []]) := id rfl
def wPN (is : List Nat) (ks : List SM) (Q : FQ) (env : Env) (o : Out (List Val)) : Prop := Wr ks Q (stm env o fun vs S1 => (setAll is vs env).bind fun e => some (.nx e, S1))
theorem W_parN {is : List Nat} {ms : List EM} : W (sParN is ms) ks Q env S = wPN is ks Q env (evs ms env S) := id rfl
theorem wPN_ok {is : List Nat} {vs : List Val} : wPN is ks Q env (some (.ok vs, S)) = wA ks Q (setAll is vs env) S := id rfl
theorem setAll_n : setAll [] [] env = some env := id rfl
theorem setAll_c {i : Nat} {is : List Nat} {vs : List Val} : setAll (i :: is) (v :: vs) env = setAll is vs (env.set i (some v)) := id rfl
def fTg1 (i : EM) (env : Env) (o : Out Val) : Out Val := bnd o fun v S1 => match v with
  | .p (.dcT kvs) => bnd (i env S1) fun u S2 => match u with
    | .p kp => (keyT kp).bind fun k => some (.ok (.p ((valT kvs k).getD .non)), S2)
    | _ => none
  | _ => none
def fTg2 (kvs : List (List Key × P)) (o : Out Val) : Out Val := bnd o fun u S2 => match u with
    | .p kp => (keyT kp).bind fun k => some (.ok (.p ((valT kvs k).getD .non)), S2)
    | _ => none
theorem ev_tget1 {o i : EM} : mTGet1 o i env S = fTg1 i env (o env S) := id rfl
theorem fTg1_ok {i : EM} {kvs : List (List Key × P)} : fTg1 i env (some (.ok (.p (.dcT kvs)), S)) = fTg2 kvs (i env S) := id rfl
theorem fTg2_ok {kvs : List (List Key × P)} {a b : Int} : fTg2 kvs (some (.ok (.p (.tup [.int a, .int b])), S)) = some (.ok (.p ((valT kvs [.inl a, .inl b]).getD .non)), S) := id rfl
theorem W_putT0 {o i e : EM} {kvs : List (List Key × P)} {a b : Int} (h1 : e env (.pdT kvs :: S) = some (.ok (.p x), .pdT kvs :: S)) (h2 : o env (.pdT kvs :: S) = some (.ok (.ref 0), .pdT kvs :: S)) (h3 : i env (.pdT kvs :: S) = some (.ok (.p (.tup [.int a, .int b])), .pdT kvs :: S)) (hl : kvs.length < 1000000) :
    W (mPutT o i e) ks Q env (.pdT kvs :: S) = Wn ks Q env (.pdT (putT kvs [.inl a, .inl b] x) :: S) := by
  unfold W mPutT
  rw [h1, stm_ok, h2, stm_ok, h3, stm_ok]
  show Wr ks Q (if kvs.length < sizeLine then _ else _) = _
  rw [if_pos (sz' hl)]; rfl
end
/-! the dict's pairs of marks, with what is told of them -/
abbrev dT (w : Int × Int → Int) (D : List (Int × Int)) : List (List Key × P) := D.map fun q => ([Sum.inl q.1, Sum.inl q.2], P.int (w q))
theorem val_dT (w : Int × Int → Int) (a b : Int) : ∀ D : List (Int × Int), valT (dT w D) [.inl a, .inl b] = if (a, b) ∈ D then some (.int (w (a, b))) else none
  | [] => rfl
  | q :: D => by
    have ih := val_dT w a b D
    unfold valT dT at *
    rw [List.map_cons, List.find?_cons]
    by_cases h : q = (a, b)
    · subst h; simp
    · have h2 : ¬ ([Sum.inl q.1, Sum.inl q.2] : List Key) = [.inl a, .inl b] := fun e => h (by
        simp only [List.cons.injEq, Sum.inl.injEq, and_true] at e
        exact Prod.ext e.1 e.2)
      have h3 : ¬ (a, b) = q := fun e => h e.symm
      simp only [h2, decide_false, List.mem_cons, h3, false_or]
      exact ih
theorem get_dT {w : Int × Int → Int} {D : List (Int × Int)} {a b : Int} (h : (a, b) ∈ D) : tgetP (.dcT (dT w D)) (.tup [.int a, .int b]) = some (.int (w (a, b))) := by
  show valT (dT w D) [.inl a, .inl b] = _
  rw [val_dT, if_pos h]
theorem put_dT (w : Int × Int → Int) (D : List (Int × Int)) (a b : Int) : putT (dT w D) [.inl a, .inl b] (.int (w (a, b))) = dT w (if (a, b) ∈ D then D else D ++ [(a, b)]) := by
  have key : ∀ q : Int × Int, ([Sum.inl q.1, Sum.inl q.2] : List Key) = [.inl a, .inl b] ↔ q = (a, b) := fun q => by
    simp only [List.cons.injEq, Sum.inl.injEq, and_true]
    exact ⟨fun e => Prod.ext e.1 e.2, fun e => by rw [e]; exact ⟨rfl, rfl⟩⟩
  have ha : ((dT w D).any fun kv => decide (kv.1 = [.inl a, .inl b])) = decide ((a, b) ∈ D) := by
    rw [List.any_map, Bool.eq_iff_iff, List.any_eq_true, decide_eq_true_eq]
    constructor
    · rintro ⟨q, hq, e⟩
      have e := (key q).mp (of_decide_eq_true e)
      exact e ▸ hq
    · intro h
      exact ⟨(a, b), h, by simp⟩
  unfold putT
  rw [ha]
  by_cases h : (a, b) ∈ D
  · rw [if_pos (decide_eq_true h), if_pos h]
    unfold dT
    rw [List.map_map]
    apply List.map_congr_left
    intro q _
    simp only [Function.comp_apply, key]
    split
    · rename_i e; rw [e]
    · rfl
  · rw [if_neg (by simpa using h), if_neg h]
    unfold dT
    rw [List.map_append]; rfl
theorem keys_dT (w : Int × Int → Int) (D : List (Int × Int)) : (dT w D).map (fun kv => P.tup (kv.1.map keyP)) = D.map fun q => P.tup [.int q.1, .int q.2] := by
  unfold dT
  rw [List.map_map]; rfl
theorem flat_dT (w : Int × Int → Int) (i j : Nat) (D : List (Int × Int)) : ((dT w D).all fun kv => flT (.tp [.nm i, .nm j]) (.tup (kv.1.map keyP))) = true := by
  rw [List.all_map, List.all_eq_true]
  intro q _
  rfl
end Z

end
section
namespace Z
open PySem L2
def b_l_divisor : SM :=
    sSeq (sWhile 1000000 (tTr (mVar 1)) (sPar2 0 1 (mVar 1) (mCall f_l_rest [mVar 0, mVar 1])) [])
    (sRet (mVar 0))
def f_l_divisor : Fn := runF 2 (b_l_divisor)
def b_l_both : SM :=
    sTry ["Clash", "NoRest"] [("NoRest", sRet (mC (.str "NoRest"))), ("Clash", sRet (mC (.str "Clash")))] (sRet (mCall f_told_both [mVar 0, mVar 1, mVar 2, mVar 3]))
def f_l_both : Fn := runF 4 (b_l_both)
def b_l_true_hold : SM :=
    sSeq (sParN [3, 4, 5, 6] [mP2 idxP (mVar 0) (mC (.int 0)), mP2 idxP (mVar 0) (mC (.int 1)), mP2 idxP (mVar 1) (mC (.int 1)), mNewT])
    (sSeq (sFor (.tp [.nm 7, .nm 8]) (iSeq (mCall f_l_stretches [mVar 3])) (sSeq (sPar2 9 10 (mCall f_told [mVar 0, mVar 7, mVar 8]) (mCall f_told [mVar 1, mVar 7, mVar 8]))
      (sSeq (sSet 11 (mCall f_l_both [mVar 0, mVar 1, mVar 7, mVar 8]))
      (sSeq (sIf (tOrM (tB (mP2 neP (mCall f_l_both [mVar 1, mVar 0, mVar 7, mVar 8]) (mVar 11))) (tB (mP2 neP (mP2 isP (mVar 11) (mC .non)) (mOr (mP2 isP (mVar 9) (mC .non)) (mP2 isP (mVar 10) (mC .non)))))) (sRet (mC (.bl false))) (sPass))
      (sSeq (sIf (tB (mP2 isP (mVar 11) (mC .non))) (sCont) (sPass))
      (sSeq (sIf (tB (mP2 neP (mVar 11) (mCall f_l_rest [mPn sumP [mSl (mVar 2) (some (mVar 7)) (some (mVar 8))], mP2 mulP (mVar 4) (mVar 5)]))) (sRet (mC (.bl false))) (sPass))
      (sSeq (sIf (tOrM (tB (mP2 neP (mCall f_l_rest [mVar 11, mVar 4]) (mVar 9))) (tB (mP2 neP (mCall f_l_rest [mVar 11, mVar 5]) (mVar 10)))) (sRet (mC (.bl false))) (sPass))
      (mPutT (mVar 6) (mTup [mVar 7, mVar 8]) (mVar 11)))))))) [7, 8, 9, 10, 11])
    (sSeq (sFz 6 (sForT (.tp [.nm 7, .nm 12]) 6 (sForT (.tp [.nm 13, .nm 8]) 6 (sSeq (sSet 14 (mCall f_l_rest [mP2 addP (mP2 tgetP (mVar 6) (mTup [mVar 7, mVar 12])) (mP2 tgetP (mVar 6) (mTup [mVar 13, mVar 8])), mP2 mulP (mVar 4) (mVar 5)]))
        (sIf (tAndM (tB (mP2 eqP (mVar 13) (mVar 12))) (tB (mP2 neP (mTGet1 (mVar 6) (mTup [mVar 7, mVar 8])) (mVar 14)))) (sRet (mC (.bl false))) (sPass))) [8, 13, 14]) [7, 8, 12, 13, 14]))
    (sRet (mC (.bl true)))))
def f_l_true_hold : Fn := runF 15 (b_l_true_hold)
def b_law_k38 (d : Fn) : SM :=
    sSeq (sSet 1 (mNewL []))
    (sSeq (sFor (.nm 2) (iRange1 (mC (.int 6))) (sSeq (sAsg (.tp [.nm 3, .nm 4]) (mTup [mP2 addP (mC (.int 1)) (mCall d [mVar 0, mVar 1, mC (.int 9)]), mP2 addP (mC (.int 2)) (mCall d [mVar 0, mVar 1, mC (.int 60)])]))
      (sSeq (sSet 5 (mP2 addP (mC (.int 2)) (mCall d [mVar 0, mVar 1, mC (.int 60)])))
      (sSeq (sSet 6 (mPn tupleP [mLc [14] (.nm 14) (iRange1 (mVar 3)) (tYesM) (mCall d [mVar 0, mVar 1, mC (.int 3600)])]))
      (sSeq (sSet 7 (mTup [mVar 3, mVar 4, mCall (f_l_facts_2 d) [mVar 0, mVar 1, mPn tupleP [mLc [15] (.nm 15) (iSeq (mVar 6)) (tYesM) (mCall f_l_rest [mVar 15, mVar 4])], mVar 4, mC (.int 9)]]))
      (sSeq (sSet 8 (mTup [mVar 3, mVar 5, mCall (f_l_facts_2 d) [mVar 0, mVar 1, mPn tupleP [mLc [15] (.nm 15) (iSeq (mVar 6)) (tYesM) (mCall f_l_rest [mVar 15, mVar 5])], mVar 5, mC (.int 9)]]))
      (sSeq (sSet 9 (mCall d [mVar 0, mVar 1, mVar 3]))
      (sSeq (sSet 10 (mP2 addP (mP2 addP (mVar 9) (mC (.int 1))) (mCall d [mVar 0, mVar 1, mP2 subP (mVar 3) (mVar 9)])))
      (sSeq (sSet 11 (mCall (f_l_lied d) [mVar 0, mVar 1, mVar 7]))
      (sSeq (sIf (tB (mP2 gtP (mCall f_l_divisor [mVar 4, mVar 5]) (mC (.int 1)))) (sSeq (sFor (.nm 12) (iSeq (mTup [mVar 7, mVar 11])) (sSeq (sIf (tB (mP2 neP (mCall f_l_both [mVar 12, mVar 8, mVar 9, mVar 10]) (mC (.str "NoRest")))) (sRet (mC (.bl false))) (sPass))
          (sIf (tB (mP2 neP (mCall f_l_both [mVar 8, mVar 12, mVar 9, mVar 10]) (mC (.str "NoRest")))) (sRet (mC (.bl false))) (sPass))) [12])
        (sCont)) (sPass))
      (sSeq (sIf (tNotM (tTr (mCall f_l_true_hold [mVar 7, mVar 8, mVar 6]))) (sRet (mC (.bl false))) (sPass))
      (sSeq (sSet 13 (mP2 isNotP (mCall f_first_clash [mVar 11]) (mC .non)))
      (sFor (.nm 12) (iSeq (mTup [mCall f_l_both [mVar 11, mVar 8, mVar 9, mVar 10], mCall f_l_both [mVar 8, mVar 11, mVar 9, mVar 10]])) (sIf (tB (mP2 neP (mP2 eqP (mVar 12) (mC (.str "Clash"))) (mVar 13))) (sRet (mC (.bl false))) (sPass)) [12])))))))))))) [2, 3, 4, 5, 6, 7, 8, 9, 10, 11, 12, 13])
    (sRet (mC (.bl true))))
def f_law_k38 (d : Fn) : Fn := runF 16 (b_law_k38 d)
end Z

end
section
namespace Z
open PySem L2
local macro_rules | `(tactic| tbr_iter [$ts,*]) => `(tactic| simp (disch := first | assumption | omega | decide | (simp only [List.length_map, List.length_cons, List.length_nil, List.length_append, List.length_range, List.length_take, List.length_drop]; omega)) only [ev_var0s, ev_varS, ev_c, dr_p, dr_0, dr_S, pu_pl, pu_pd, pu_pdT, retO_s, ev_mv, fMv_ref, fMvx_s, ev_p1, fP1_ok, fP1d_s, ev_p2, fP2a_ok, fP2a_exc, fP2b_ok, fP2b_exc, fP2c_s, evs_nil, evs_cons, fEa_ok, fEa_exc, fEb_ok, fEb_exc, drs_nil, drs_cons, fDc_s, ev_pn, fPn_ok, fPn_exc, fPd_s, purs_nil, purs_cons, ev_tup, fTup_ok, fTup_exc, fTd_s, ev_lst, fLst_ok, fLst_exc, fLd_s, ev_newL, fNewL_ok, fNewL_exc, fNd_s, ev_newD, ev_and, fAnd_t, fAnd_f, fAnd_exc, ev_or, fOr_t, fOr_f, fOr_exc, ev_not, fNot_b, fNot_exc, ev_if, fIf_t, fIf_f, fIf_exc, ev_tB, ftB_b, ftB_exc, ev_tTr, ftT_ok, ftT_exc, ftTd_s, tr_non, tr_bl, tr_int, tr_tup, tr_lst, tr_0, tr_S, otr_pl, ev_tand, ftAnd_t, ftAnd_f, ftAnd_exc, ev_tor, ftOr_t, ftOr_f, ftOr_exc, ev_tnot, ftNot_b, ftNot_exc, ev_tyes, ev_sl, fSa_ok, fSa_exc, fSb_ok, fSc_ok, fSd_s, evO_n, evO_s, fO_i, ev_ch, fCa_ok, fCb_ok, fCc_t, fCc_f, ev_call, fCall_ok, fCall_exc, fRp_ok, fRp_exc, cv_1, cv_2, cv_3, cv_4, cv_5, fRt_ok, ev_lc, it_seq, fSeq_t, fSeq_l, it_en, fEn_t, fEn_l, it_r1, fR1_ok, it_r2, fR2a_ok, fR2b_ok, it_z, fZa_ok, fZb_t, fZb_l, ev_me, fMa_ok, fMb_t, fMc_ok, fMc_exc, la_0, la_r0, la_S, fPush_s, app_S, ext_S, W_seq, W_pass, Wn_cons, Wn_nil, W_set, wSet_ok, wSet_exc, W_expr, wEx_ok, wEx_exc, W_ret, wRet_ok, wRet_exc, W_if, wIf_t, wIf_f, wIf_exc, W_brk, W_cont, W_raise, W_asg, wAsg_ok, wAsg_exc, wA_s, asg_nm, asg_tp, asg_tpl, asgs_nil, asgs_cons, fAs_s, W_par2, wPa_ok, wPa_exc, wPb_ok, wPb_exc, clr_nil, clr_cons, W_for, wFor_ok, wFor_exc, IQ_nx, IQ_ct, IQ_bk, IQ_rt, IQ_ex, wB_s, lcE1_s, lcE2_t, lcE2_f, lcE3_s, fLm_s, fLt_s, fLc_ok, o_mod, o_fdiv, o_mulR, o_mulL, o_addT, o_addL, o_sumT, o_sumL, o_app, o_ext, cut_map, cut_0j, cut_i, atI_map, atI_i, all_b, any_b, is_t, is_tl, is_ti, is_tb, is_tn, is_ts, is_i, is_ib, is_it, is_il, is_in, is_is, is_b, is_bi, is_bt, is_bl, is_bn, is_bs, tk_map, dp_map, app_map, neP_nn, neP_in, neP_ni, eqP_nn, eqP_in, eqP_ni, neP_bb, eqP_bb, ssm_fold, in_bl, ev_ixo, fIxa_ok, fIxb_bl, fIxc_s, ev_notT, fNotT_ok, fNotTd_s, W_par3, wP3a_ok, wP3b_ok, wP3c_ok, ev_rg1, fG1_ok, ev_rg2, fG2a_ok, fG2b_ok, ev_lstRg, ev_tupRg, ev_newRg, fLR_ok, fTR_ok, fNR_ok, ev_newOf, fNO_ok, fNOd_t, fNOd_l, setS_0, setS_S, W_sub, wS1_ok, wS2_ok, wS3_ok, wS4_s, TQ_nx, TQ_rt, TQ_ex, wTr_hit, wTr_miss, wTr_nil, rv_t, rv_l, rv_map, notIn_key, in_key, SQ_nx, SQ_rt, SQ_bk, SQ_ct, SQ_ex, addP_i, subP_i, negP_i, ltP_i, leP_i, gtP_i, geP_i, isP_n, isP_i, isP_b, isP_t, isP_l, isP_s, isNotP_n, isNotP_i, isNotP_b, isNotP_t, isNotP_l, isNotP_s, isP_bb, isNotP_bb, idxP_t, idxP_l, atI_0, atI_1, atI_2, sliceP_t, sliceP_l, lenP_t, lenP_l, lenP_f, tupleP_t, tupleP_l, listP_t, listP_l, minP_i, maxP_i, intP_i, intP_b, eqP_int, neP_int, List.set_cons_zero, List.set_cons_succ, List.length_cons, List.length_nil, List.map_cons, List.map_nil, List.length_map, List.cons_append, List.nil_append, List.append_nil, Option.map_some, Int.toNat_natCast, Int.reduceToNat, List.getElem?_map, List.getElem?_cons_zero, List.getElem?_cons_succ, List.replicate_zero, List.replicate_succ, Nat.sub_self, Nat.reduceSub, Nat.reduceAdd, Bool.not_true, Bool.not_false, List.take_zero, List.take_succ_cons, and_true, true_and, implies_true, decide_true, decide_false, Int.cast_ofNat_Int, Int.reduceEq, Int.reduceNe, Int.reduceLT, Int.reduceLE, $[$ts:term],*])
theorem divisor3_eq (a b : Int) (ha : 0 ≤ a) (hb : 0 ≤ b) (hb2 : b < 900000) : f_l_divisor [.p (.int a), .p (.int b)] [] = some (.ok (.p (.int (gcdI a b))), []) := by
  refine fn_W (k := 2) ?_ rfl
  unfold b_l_divisor
  tbr_iter []
  refine W_while (σ := Int × Int) 1000000 (fun s => [some (.p (.int s.1)), some (.p (.int s.2))]) (fun _ => []) (fun s => 0 ≤ s.1 ∧ 0 ≤ s.2 ∧ s.2 < 900000 ∧ gcdI s.1 s.2 = gcdI a b) (fun s => s.2.toNat) (a, b) (by simp only; omega) rfl rfl ⟨ha, hb, hb2, rfl⟩ ?_
  rintro ⟨x, y⟩ ⟨h1, h2, h3, h4⟩
  simp only at h1 h2 h3 h4
  have hre : y ≠ 0 → f_l_rest [.p (.int x), .p (.int y)] [] = some (.ok (.p (.int (x % y))), []) := fun h => rest_eq x y (by omega) (by omega)
  tbr_iter []
  rw [wWh_c]
  refine ⟨fun h => ?_, fun h => ?_⟩
  · have h : ¬ y = 0 := by simpa using h
    have hy : 0 < y := by omega
    have e0 := Int.emod_nonneg x (show y ≠ 0 by omega)
    have e1 := Int.emod_lt_of_pos x hy
    tbr_iter [hre h]
    exact ⟨(y, x % y), rfl, ⟨by simp only; omega, e0, by simp only; omega, by simp only; rw [gcdI_step h1 hy, h4]⟩, by simp only; omega⟩
  · have h : y = 0 := by simpa using h
    subst h
    tbr_iter []
    rw [← h4]
    simp [gcdI, Int.toNat_of_nonneg h1]
theorem both_exc (c : Str) (l m t : Int) (fs gs : List F3) (a b : Int) (hc : c = "NoRest" ∨ c = "Clash") (e : f_told_both [.p (sP l m fs), .p (sP l t gs), .p (.int a), .p (.int b)] [] = some (.exc c, [])) : f_l_both [.p (sP l m fs), .p (sP l t gs), .p (.int a), .p (.int b)] [] = some (.ok (.p (.str c)), []) := by
  refine fn_W (k := 4) ?_ rfl
  unfold b_l_both
  refine W_try ?_
  rcases hc with rfl | rfl
  · tbr_iter [e]
  · tbr_iter [e]
theorem both_ok (x : P) (l m t : Int) (fs gs : List F3) (a b : Int) (e : f_told_both [.p (sP l m fs), .p (sP l t gs), .p (.int a), .p (.int b)] [] = some (.ok (.p x), [])) : f_l_both [.p (sP l m fs), .p (sP l t gs), .p (.int a), .p (.int b)] [] = some (.ok (.p x), []) := by
  refine fn_W (k := 4) ?_ rfl
  unfold b_l_both
  refine W_try ?_
  tbr_iter [e]
theorem mod_both {m t S x : Int} (hm : 2 ≤ m) (ht : 2 ≤ t) (h : gcdI m t = 1) (x0 : 0 ≤ x) (x1 : x < m * t) (x2 : x % m = S % m) (x3 : x % t = S % t) : x = S % (m * t) := by
  have hp : 0 < m * t := Int.mul_pos (by omega) (by omega)
  refine crt_one (by omega) (by omega) h x0 x1 (Int.emod_nonneg _ (by omega)) (Int.emod_lt_of_pos _ hp) ?_ ?_
  · rw [x2, Int.emod_emod_of_dvd S ⟨t, rfl⟩]
  · rw [x3, Int.emod_emod_of_dvd S ⟨m, Int.mul_comm m t⟩]
theorem both_val (l m t : Int) (fs gs : List F3) (a b : Int) (φ : Int → Int) (hl : 0 ≤ l) (hl2 : l ≤ 1000) (hm : 2 ≤ m) (ht : 2 ≤ t) (ht2 : t < 900000) (h : gcdI m t = 1) (g1 : Gd l m fs) (g2 : Gd l t gs) (f1 : fs.length ≤ 1000) (f2 : gs.length ≤ 1000) (a0 : 0 ≤ a) (a1 : a ≤ l) (hp : Pot m fs φ) (hq : Pot t gs φ) :
    (¬ (Conn fs a b ∧ Conn gs a b) ∧ f_l_both [.p (sP l m fs), .p (sP l t gs), .p (.int a), .p (.int b)] [] = some (.ok (.p .non), [])) ∨
    ((Conn fs a b ∧ Conn gs a b) ∧ f_l_both [.p (sP l m fs), .p (sP l t gs), .p (.int a), .p (.int b)] [] = some (.ok (.p (.int ((φ b - φ a) % (m * t)))), [])) := by
  rcases both_eq l m t fs gs a b φ φ hl hl2 hm ht ht2 h g1 g2 f1 f2 a0 a1 hp hq with ⟨h1, e⟩ | ⟨x, x0, x1, x2, x3, h1, e⟩
  · exact .inl ⟨h1, both_ok _ _ _ _ _ _ _ _ e⟩
  · refine .inr ⟨h1, ?_⟩
    rw [← mod_both hm ht h x0 x1 x2 x3]
    exact both_ok _ _ _ _ _ _ _ _ e
open Classical in
theorem true_hold (l m t : Int) (fs gs : List F3) (great : List Int) (hl : 0 ≤ l) (hl2 : l ≤ 9) (hm : 2 ≤ m) (hm2 : m ≤ 100) (ht : 2 ≤ t) (ht2 : t ≤ 100) (h : gcdI m t = 1) (g1 : Gd l m fs) (g2 : Gd l t gs) (f1 : fs.length ≤ 1000) (f2 : gs.length ≤ 1000) (hp : Pot m fs (pre great)) (hq : Pot t gs (pre great)) :
    f_l_true_hold [.p (sP l m fs), .p (sP l t gs), .p (rP great)] [] = some (.ok (.p (.bl true)), []) := by
  have hmt : m * t ≤ 100 * 100 := Int.mul_le_mul hm2 ht2 (by omega) (by omega)
  have hmt0 : 0 < m * t := Int.mul_pos (by omega) (by omega)
  have hst := stretches_eq l hl (by omega)
  have hsl := strsL_len (l := l) (by omega) l.toNat
  let w : Int × Int → Int := fun q => ssm great q.1 q.2 % (m * t)
  have h' : gcdI t m = 1 := by rw [gcd_comm']; exact h
  refine fn_W (k := 15) ?_ rfl
  unfold b_l_true_hold
  tbr_iter [W_parN, ev_newT, wPN_ok, setAll_c, setAll_n, hst]
  refine W_pre (σ := List (Int × Int)) (strsL l l.toNat) p2P (fun _ => [some (.p (sP l m fs)), some (.p (sP l t gs)), some (.p (rP great)), some (.p (.int l)), some (.p (.int m)), some (.p (.int t)), some (.ref 0), none, none, none, none, none, none, none, none]) (fun D => [.pdT (dT w D)]) (fun d D => D.length ≤ d.length ∧ ∀ q, q ∈ D ↔ q ∈ d ∧ Conn fs q.1 q.2 ∧ Conn gs q.1 q.2) [] rfl rfl ⟨Nat.le_refl _, fun q => by simp⟩ ?_ ?_
  · rintro d ⟨a, b⟩ w2 D hdd ⟨hDl, hD⟩
    have hab := (strsL_mem (by omega)).mp (show (a, b) ∈ strsL l l.toNat by rw [hdd]; simp)
    simp only at hab
    have hdl : d.length < (strsL l l.toNat).length := by rw [hdd]; simp
    have hS := pre_ssm great a b (by omega) (by omega)
    have hre := rest_eq (ssm great a b) (m * t) hmt0 (by omega)
    have hr1 := rest_eq (ssm great a b % (m * t)) m (by omega) (by omega)
    have hr2 := rest_eq (ssm great a b % (m * t)) t (by omega) (by omega)
    rw [Int.emod_emod_of_dvd (ssm great a b) ⟨t, rfl⟩] at hr1
    rw [Int.emod_emod_of_dvd (ssm great a b) ⟨m, Int.mul_comm m t⟩] at hr2
    have T1 := told_eq l m fs a b (pre great) (by omega) hl (by omega) g1 f1 (by omega) (by omega) hp
    have T2 := told_eq l t gs a b (pre great) (by omega) hl (by omega) g2 f2 (by omega) (by omega) hq
    have B1 := both_val l m t fs gs a b (pre great) hl (by omega) hm ht (by omega) h g1 g2 f1 f2 (by omega) (by omega) hp hq
    have B2 := both_val l t m gs fs a b (pre great) hl (by omega) ht hm (by omega) h' g2 g1 f2 f1 (by omega) (by omega) hq hp
    rw [← hS] at T1 T2 B1 B2
    rw [Int.mul_comm t m] at B2
    by_cases hc : Conn fs a b ∧ Conn gs a b
    · rcases T1 with ⟨_, e1⟩ | ⟨z, _⟩
      · rcases T2 with ⟨_, e2⟩ | ⟨z, _⟩
        · rcases B1 with ⟨z, _⟩ | ⟨_, e3⟩
          · exact (z hc).elim
          · rcases B2 with ⟨z, _⟩ | ⟨_, e4⟩
            · exact (z ⟨hc.2, hc.1⟩).elim
            · tbr_iter [e1, e2, e3, e4, hre, hr1, hr2, bne_self_eq_false]
              rw [W_putT0 (x := .int (w (a, b))) (a := a) (b := b) (by tbr_iter []; rfl) (by tbr_iter []) (by tbr_iter []) (by simp only [List.length_map]; omega), put_dT]
              tbr_iter []
              refine ⟨if (a, b) ∈ D then D else D ++ [(a, b)], rfl, ?_, fun q => ?_⟩
              · split
                · simp; omega
                · simp; omega
              · by_cases hq : q = (a, b)
                · subst hq
                  constructor
                  · exact fun _ => ⟨by simp, hc⟩
                  · intro _
                    split
                    · assumption
                    · simp
                · have k1 : q ∈ (if (a, b) ∈ D then D else D ++ [(a, b)]) ↔ q ∈ D := by
                    split
                    · rfl
                    · simp [hq]
                  rw [k1, hD]
                  simp [hq]
        · exact (z hc.2).elim
      · exact (z hc.1).elim
    · have hinv : ∀ q, q ∈ D ↔ q ∈ d ++ [(a, b)] ∧ Conn fs q.1 q.2 ∧ Conn gs q.1 q.2 := fun q => by
        rw [hD]
        constructor
        · rintro ⟨k1, k2⟩
          exact ⟨by simp [k1], k2⟩
        · rintro ⟨k1, k2⟩
          rcases List.mem_append.mp k1 with z | z
          · exact ⟨z, k2⟩
          · rw [List.mem_singleton.mp z] at k2
            exact (hc k2).elim
      rcases B1 with ⟨_, e3⟩ | ⟨z, _⟩
      · rcases B2 with ⟨_, e4⟩ | ⟨z, _⟩
        · rcases T1 with ⟨z1, e1⟩ | ⟨_, e1⟩
          · rcases T2 with ⟨z2, e2⟩ | ⟨_, e2⟩
            · exact (hc ⟨z1, z2⟩).elim
            · tbr_iter [e1, e2, e3, e4, bne_self_eq_false]
              exact ⟨D, rfl, by simp; omega, hinv⟩
          · rcases T2 with ⟨z2, e2⟩ | ⟨_, e2⟩
            · tbr_iter [e1, e2, e3, e4, bne_self_eq_false]
              exact ⟨D, rfl, by simp; omega, hinv⟩
            · tbr_iter [e1, e2, e3, e4, bne_self_eq_false]
              exact ⟨D, rfl, by simp; omega, hinv⟩
        · exact (hc ⟨z.2, z.1⟩).elim
      · exact (hc z).elim
  · rintro D ⟨_, hD⟩
    tbr_iter []
    rw [W_fz2 (j := 0) (x := .dcT (dT w D)) rfl rfl]
    tbr_iter []
    have hmem : ∀ q ∈ D, 0 ≤ q.1 ∧ q.1 < q.2 ∧ q.2 ≤ l ∧ Conn fs q.1 q.2 ∧ Conn gs q.1 q.2 := fun q hq => by
      obtain ⟨k1, k2⟩ := (hD q).mp hq
      have := (strsL_mem (by omega)).mp k1
      exact ⟨by omega, by omega, by omega, k2⟩
    refine W_forT (kvs := dT w D) rfl (flat_dT w 7 12 D) ?_
    rw [keys_dT]
    refine W_pre (σ := Unit) D (fun q => P.tup [.int q.1, .int q.2]) (fun _ => [some (.p (sP l m fs)), some (.p (sP l t gs)), some (.p (rP great)), some (.p (.int l)), some (.p (.int m)), some (.p (.int t)), some (.p (.dcT (dT w D))), none, none, none, none, none, none, none, none]) (fun _ => [.gone]) (fun _ _ => True) () rfl rfl trivial ?_ ?_
    · rintro d ⟨a, b⟩ w2 _ hdd -
      have hq1 : (a, b) ∈ D := by rw [hdd]; simp
      have m1 := hmem _ hq1
      simp only at m1
      tbr_iter []
      refine W_forT (kvs := dT w D) rfl (flat_dT w 13 8 D) ?_
      rw [keys_dT]
      refine W_pre (σ := Unit) D (fun q => P.tup [.int q.1, .int q.2]) (fun _ => [some (.p (sP l m fs)), some (.p (sP l t gs)), some (.p (rP great)), some (.p (.int l)), some (.p (.int m)), some (.p (.int t)), some (.p (.dcT (dT w D))), some (.p (.int a)), none, none, none, none, some (.p (.int b)), none, none]) (fun _ => [.gone]) (fun _ _ => True) () rfl rfl trivial ?_ ?_
      · rintro d' ⟨s, e⟩ w3 _ hdd' -
        have hq2 : (s, e) ∈ D := by rw [hdd']; simp
        have m2 := hmem _ hq2
        simp only at m2
        have hre := rest_eq (w (a, b) + w (s, e)) (m * t) hmt0 (by omega)
        by_cases hs : s = b
        · subst hs
          have hq3 : (a, e) ∈ D := (hD _).mpr ⟨(strsL_mem (by omega)).mpr ⟨by omega, by omega, by omega, by omega⟩, m1.2.2.2.1.trans m2.2.2.2.1, m1.2.2.2.2.trans m2.2.2.2.2⟩
          have hv : valT (dT w D) [.inl a, .inl e] = some (.int (w (a, e))) := by rw [val_dT, if_pos hq3]
          have hsum : (w (a, s) + w (s, e)) % (m * t) = w (a, e) := by
            show (ssm great a s % (m * t) + ssm great s e % (m * t)) % (m * t) = ssm great a e % (m * t)
            rw [← Int.add_emod, pre_ssm great a s (by omega) (by omega), pre_ssm great s e (by omega) (by omega), pre_ssm great a e (by omega) (by omega)]
            congr 1
            omega
          rw [hsum] at hre
          tbr_iter [get_dT hq1, get_dT hq2, hre, ev_tget1, fTg1_ok, fTg2_ok, hv, Option.getD_some]
          exact ⟨(), trivial⟩
        · tbr_iter [get_dT hq1, get_dT hq2, hre, hs]
          exact ⟨(), trivial⟩
      · rintro _ -
        tbr_iter [KQ_nx]
        exact ⟨(), trivial⟩
    · rintro _ -
      tbr_iter [KQ_nx]
theorem isNot_opt2 (r : Option Nat) : isNotP (optN r) .non = some (.bl r.isSome) := by cases r <;> rfl
theorem gcd_pos (m t : Int) (hm : 0 < m) : 1 ≤ gcdI m t := by
  unfold gcdI
  have := Nat.gcd_pos_of_pos_left t.toNat (show 0 < m.toNat by omega)
  omega
theorem lay_clash : lay 16 (.str "Clash") = true := by decide +kernel
theorem lay_norest : lay 16 (.str "NoRest") = true := by decide +kernel
theorem eq_clash_i (x : Int) : eqP (.int x) (.str "Clash") = some (.bl false) := by
  unfold eqP; rw [lay_clash]; rfl
theorem eq_clash_n : eqP .non (.str "Clash") = some (.bl false) := by
  unfold eqP; rw [lay_clash]; rfl
theorem eq_clash_s : eqP (.str "Clash") (.str "Clash") = some (.bl true) := by
  unfold eqP; rw [lay_clash]; simp [eqB]
theorem ne_norest : neP (.str "NoRest") (.str "NoRest") = some (.bl false) := by
  unfold neP; rw [lay_norest]; simp [eqB]
/-- told by both, if some fact of the first may clash -/
theorem both_due (l m t : Int) (fs gs : List F3) (a b : Int) (r : Option Nat) (hl : 0 ≤ l) (hl2 : l ≤ 1000) (hm : 2 ≤ m) (hm2 : m < 900000) (ht : 2 ≤ t) (ht2 : t < 900000) (h : gcdI m t = 1) (g1 : Gd l m fs) (g2 : Gd l t gs) (f1 : fs.length ≤ 1000) (f2 : gs.length ≤ 1000) (a0 : 0 ≤ a) (a1 : a ≤ l) (hr : ClashRes m fs r) (hq : Cons t gs) :
    (∃ u, f_l_both [.p (sP l m fs), .p (sP l t gs), .p (.int a), .p (.int b)] [] = some (.ok (.p u), []) ∧ eqP u (.str "Clash") = some (.bl r.isSome)) ∧ ∃ u, f_l_both [.p (sP l t gs), .p (sP l m fs), .p (.int a), .p (.int b)] [] = some (.ok (.p u), []) ∧ eqP u (.str "Clash") = some (.bl r.isSome) := by
  have h' : gcdI t m = 1 := by rw [gcd_comm']; exact h
  by_cases hc : Cons m fs
  · obtain rfl := hr.none_iff.mpr hc
    obtain ⟨φ, hp⟩ := hc
    obtain ⟨ψ, hq⟩ := hq
    refine ⟨?_, ?_⟩
    · rcases both_eq l m t fs gs a b φ ψ hl hl2 hm ht ht2 h g1 g2 f1 f2 a0 a1 hp hq with ⟨_, e⟩ | ⟨x, _, _, _, _, _, e⟩
      · exact ⟨_, both_ok _ _ _ _ _ _ _ _ e, eq_clash_n⟩
      · exact ⟨_, both_ok _ _ _ _ _ _ _ _ e, eq_clash_i x⟩
    · rcases both_eq l t m gs fs a b ψ φ hl hl2 ht hm hm2 h' g2 g1 f2 f1 a0 a1 hq hp with ⟨_, e⟩ | ⟨x, _, _, _, _, _, e⟩
      · exact ⟨_, both_ok _ _ _ _ _ _ _ _ e, eq_clash_n⟩
      · exact ⟨_, both_ok _ _ _ _ _ _ _ _ e, eq_clash_i x⟩
  · cases r with
    | none => exact (hc (hr.none_iff.mp rfl)).elim
    | some k =>
      exact ⟨⟨_, both_exc _ _ _ _ _ _ _ _ (.inr rfl) (both_clash l m t fs gs a b hl hl2 (by omega) (by omega) ht2 h g1 g2 f1 f2 a0 a1 (fun q => hc q.1)), eq_clash_s⟩, ⟨_, both_exc _ _ _ _ _ _ _ _ (.inr rfl) (both_clash l t m gs fs a b hl hl2 (by omega) (by omega) hm2 h' g2 g1 f2 f1 a0 a1 (fun q => hc q.2)), eq_clash_s⟩⟩
theorem low_pot {m : Int} {l : Int} {great : List Int} {fs : List F3} (hm : 0 < m) (hg : Gd l m fs) (hf : ∀ f ∈ fs, fitB m (great.map fun x => x % m) f = true) : Pot m fs (pre great) := by
  refine (fitB_pot hm hg).mp fun f h => ?_
  have := hf f h
  unfold fitB at this ⊢
  rwa [ssm_low] at this
theorem k38_law {d : Fn} (hd : DrawOk d) (ns : List Int) : f_law_k38 d [.p (.fz ns)] [] = some (.ok (.p (.bl true)), []) := by
  refine fn_W (k := 16) ?_ rfl
  unfold b_law_k38
  tbr_iter []
  have htw : ([O.pl []] : List O) = [tw 0] := rfl
  rw [htw]
  refine W_rng (σ := Nat) 0 6 (fun _ => [some (.p (.fz ns)), some (.ref 0), none, none, none, none, none, none, none, none, none, none, none, none, none, none]) (fun n => [tw n]) (fun i n => n ≤ 1000 * i) 0 rfl rfl (by omega) ?_ ?_
  · intro i n hi hn
    obtain ⟨ql, ql0, ql1, e0⟩ := hd.i ns n 9 (by omega) (by omega)
    obtain ⟨qm, qm0, qm1, e1⟩ := hd.i ns (n + 1) 60 (by omega) (by omega)
    obtain ⟨qt, qt0, qt1, e2⟩ := hd.i ns (n + 1 + 1) 60 (by omega) (by omega)
    tbr_iter [cvt1 e0, cvt1 e1, cvt1 e2]
    generalize hL : lcL _ _ _ _ _ _ _ = L
    obtain ⟨acc, s, rfl, row, rfl, h2, h3⟩ := lcD hL (fun k : Nat => [tw k]) (fun i acc k => ∃ r : List Int, acc = r.map P.int ∧ k = n + 1 + 1 + 1 + i ∧ r.length = i) (n + 1 + 1 + 1) rfl ⟨[], rfl, rfl, rfl⟩ (by simp; omega) (by
      rintro i y acc k hi ⟨r, rfl, rfl, h3⟩
      have := (List.getElem?_eq_some_iff.mp hi).1
      rw [List.length_range] at this
      obtain ⟨z, z0, z1, e⟩ := hd.i ns (n + 1 + 1 + 1 + i) 3600 (by omega) (by omega)
      refine ⟨_, .int z, n + 1 + 1 + 1 + i + 1, rfl, ?_, r ++ [z], by simp, rfl, by simp; omega⟩
      tbr_iter [cvt1 e])
    rw [List.length_range] at h2 h3
    have hrl : (row.length : Int) = 1 + ql := by omega
    generalize hlq : 1 + ql = l at *
    generalize hmq : 2 + qm = m at *
    generalize htq : 2 + qt = t at *
    obtain ⟨fs, n1, e3, a1, a2, a3, a4⟩ := facts2_eq hd ns s (row.map fun x => x % m) m 9 (by omega) (by omega) (by simp; omega) (by simp; omega) (by omega) (by omega) (by omega)
    obtain ⟨gs, n2, e4, b1, b2, b3, b4⟩ := facts2_eq hd ns n1 (row.map fun x => x % t) t 9 (by omega) (by omega) (by simp; omega) (by simp; omega) (by omega) (by omega) (by omega)
    rw [List.length_map, hrl] at a2 b2
    have p1 := low_pot (by omega) a2 a4
    have p2 := low_pot (by omega) b2 b4
    rw [show rP (row.map fun x => x % m) = .tup (row.map fun x => .int (x % m)) by simp [rP]] at e3
    rw [show rP (row.map fun x => x % t) = .tup (row.map fun x => .int (x % t)) by simp [rP]] at e4
    obtain ⟨x, x0, x1, e5⟩ := hd.i ns n2 l (by omega) (by omega)
    obtain ⟨y, y0, y1, e6⟩ := hd.i ns (n2 + 1) (l - x) (by omega) (by omega)
    obtain ⟨hs, n3, e7, c1, c2, c3⟩ := lied_eq hd ns (n2 + 1 + 1) l m fs (by omega) a2 (by omega) (by omega) (by omega)
    have hsl : hs.length ≤ 1000 := by
      rcases c3 with ⟨_, rfl⟩ | ⟨k, f, v, k1, _, _, _, rfl⟩
      · simp
      · simp [toldO]; omega
    have hgc := divisor3_eq m t (by omega) (by omega) (by omega)
    have hgp := gcd_pos m t (by omega)
    tbr_iter []
    generalize hL : lcL _ _ _ _ _ _ _ = L
    obtain rfl := lcM hL (fun x : Int => .int (x % m)) (by intro x _; tbr_iter [rest_eq]) (by omega)
    tbr_iter [cvt3 e3]
    generalize hL : lcL _ _ _ _ _ _ _ = L
    obtain rfl := lcM hL (fun x : Int => .int (x % t)) (by intro x _; tbr_iter [rest_eq]) (by omega)
    tbr_iter [cvt3 e4, cvt1 e5, cvt1 e6, cvt1 e7, hgc]
    by_cases hg : 1 < gcdI m t
    · have hg1 : ¬ gcdI m t = 1 := by omega
      have hg2 : ¬ gcdI t m = 1 := by rw [gcd_comm']; exact hg1
      tbr_iter [hg]
      refine W_pre (σ := Unit) [fs, hs] (fun f => sP l m f) (fun _ => [some (.p (.fz ns)), some (.ref 0), some (.p (.int (0 + (i : Int)))), some (.p (.int l)), some (.p (.int m)), some (.p (.int t)), some (.p (rP row)), some (.p (sP l m fs)), some (.p (sP l t gs)), some (.p (.int x)), some (.p (.int (x + 1 + y))), some (.p (sP l m hs)), none, none, none, none]) (fun _ => [tw n3]) (fun _ _ => True) () rfl rfl trivial ?_ ?_
      · rintro _ f _ _ _ -
        have q1 := both_exc _ l m t f gs x (x + 1 + y) (.inl rfl) (both_no l m t f gs x (x + 1 + y) (by omega) (by omega) (by omega) hg1)
        have q2 := both_exc _ l t m gs f x (x + 1 + y) (.inl rfl) (both_no l t m gs f x (x + 1 + y) (by omega) (by omega) (by omega) hg2)
        tbr_iter [q1, q2, ne_norest]
        exact ⟨(), trivial⟩
      · rintro _ -
        tbr_iter []
        exact ⟨n3, rfl, by omega⟩
    · have hg1 : gcdI m t = 1 := by omega
      have ht := true_hold l m t fs gs row (by omega) (by omega) (by omega) (by omega) (by omega) (by omega) hg1 a2 b2 (by omega) (by omega) p1 p2
      obtain ⟨r, hr, ef⟩ := first_clash_eq l m hs (by omega) (by omega) (by omega) c2 hsl
      obtain ⟨⟨u1, k1, k2⟩, u2, k3, k4⟩ := both_due l m t hs gs x (x + 1 + y) r (by omega) (by omega) (by omega) (by omega) (by omega) (by omega) hg1 c2 b2 hsl (by omega) (by omega) (by omega) hr ⟨_, p2⟩
      tbr_iter [hg, ht, ef, isNot_opt2, k1, k3]
      refine W_pre (σ := Unit) [u1, u2] (fun u => u) (fun _ => [some (.p (.fz ns)), some (.ref 0), some (.p (.int (0 + (i : Int)))), some (.p (.int l)), some (.p (.int m)), some (.p (.int t)), some (.p (rP row)), some (.p (sP l m fs)), some (.p (sP l t gs)), some (.p (.int x)), some (.p (.int (x + 1 + y))), some (.p (sP l m hs)), none, some (.p (.bl r.isSome)), none, none]) (fun _ => [tw n3]) (fun _ _ => True) () rfl rfl trivial ?_ ?_
      · rintro d' u w' _ hu -
        have hm : u = u1 ∨ u = u2 := by
          have : u ∈ [u1, u2] := by rw [hu]; simp
          simpa using this
        have hk : eqP u (.str "Clash") = some (.bl r.isSome) := by
          rcases hm with rfl | rfl
          · exact k2
          · exact k4
        tbr_iter [hk, bne_self_eq_false]
        exact ⟨(), trivial⟩
      · rintro _ -
        tbr_iter []
        exact ⟨n3, rfl, by omega⟩
  · intro n hn
    tbr_iter []
end Z

end
namespace Z
theorem pure_law_k38 (ns : List Int) (h : ns.length ≤ 63) : f_law_k38 f_l_draw_2 [.p (.fz ns)] [] = some (.ok (.p (.bl true)), []) := k38_law draw2_ok ns
end Z
namespace Z.D
open PySem PySem.Spec PyProof.Rows L2
def topS (i : Nat) : Stmt := PySem.Challenge.pw_stretchrests_k38_whole_two_numbers_toget.main.body.getD i (.Pass ⟨0, 0, 0, 0⟩)
section
variable {P : Program} {w : World} {K : PySem.W.Frag} {mg : Str → Option Value} {base : Heap}
set_option maxHeartbeats 4000000 in
theorem ok_steps_from {fa : Addr} {fd : FuncData} (F : Fun K "steps_from" "steps_from" (topS 5) fa fd) (h_enumerate : mg "enumerate" = none) : FnOk P w K mg base (L2.CX P w) 1 fa fd ["sheet", "mark"] (spF K mg (f_steps_from) 2) := by
  have sc : FnScope ["sheet", "mark", "found", "number", "first", "last", "rest"] ["sheet", "mark"] (defScope (topS 5)) := ⟨rfl, rfl, rfl, by decide +kernel, rfl, by decide +kernel, by decide +kernel⟩
  refine fn_ok2 ["sheet", "mark", "found", "number", "first", "last", "rest"] 0 (b_steps_from) F sc rfl rfl fun cdv A outer s H E hr tk hp => ?_
  exact dss_cons (ds_set 2 sc.nd (de_newL (da_nil)))
    (dss_cons (ds_for [3, 4, 5, 6] hp (di_enum h_enumerate (de_ix ix_P (de_var 0) (de_int))) (dg_tup (dgs_cons (dg_name 3 sc.nd) (dgs_cons (dg_tup (dgs_cons (dg_name 4 sc.nd) (dgs_cons (dg_name 5 sc.nd) (dgs_cons (dg_name 6 sc.nd) (dgs_nil))))) (dgs_nil)))) (dss_one (ds_if (dt_cmp (pc_P (op_eqP hr.units) (de_var 4) (de_var 1))) (dss_one (ds_expr (de_append (pe_bm PySem.F.plainAttrs_list PySem.F.slot_list_append PySem.F.type_list_append mt_append (de_var 2) (da_cons (de_tup (da_cons (de_var 3) (da_cons (de_bl) (da_cons (de_var 5) (da_cons (de_var 6) (da_nil)))))) da_nil))))) (dss_one (ds_if (dt_cmp (pc_P (op_eqP hr.units) (de_var 5) (de_var 1))) (dss_one (ds_expr (de_append (pe_bm PySem.F.plainAttrs_list PySem.F.slot_list_append PySem.F.type_list_append mt_append (de_var 2) (da_cons (de_tup (da_cons (de_var 3) (da_cons (de_bl) (da_cons (de_var 4) (da_cons (de_bin op_subP (de_int) (de_var 6)) (da_nil)))))) da_nil))))) (dss_nil))))))
    (dss_one (ds_ret (de_mv 2))))
set_option maxHeartbeats 4000000 in
theorem ok_way {fa : Addr} {fd : FuncData} (F : Fun K "way" "way" (topS 6) fa fd) (h_len : mg "len" = none) (h_sorted : mg "sorted" = none) (c_steps_from : Cal P w K mg base 1 "steps_from" 2 f_steps_from) : FnOk P w K mg base (L2.CX P w) 2 fa fd ["sheet", "one", "other"] (spF K mg (f_way) 3) := by
  have sc : FnScope ["sheet", "one", "other", "rows", "seen", "at", "mark", "steps", "number", "is_on", "goal", "rest"] ["sheet", "one", "other"] (defScope (topS 6)) := ⟨rfl, rfl, rfl, by decide +kernel, rfl, by decide +kernel, by decide +kernel⟩
  refine fn_ok2 ["sheet", "one", "other", "rows", "seen", "at", "mark", "steps", "number", "is_on", "goal", "rest"] 1 (b_way) F sc rfl rfl fun cdv A outer s H E hr tk hp => ?_
  exact dss_cons (ds_set 3 sc.nd (de_newL (da_cons (de_tup (da_cons (de_var 1) (da_cons (de_tup (da_nil)) (da_nil)))) (da_nil))))
    (dss_cons (ds_set 4 sc.nd (de_disp1 (de_var 1) (de_bl)))
    (dss_cons (ds_set 5 sc.nd (de_int))
    (dss_cons (ds_while 1000000 [6, 7, 8, 9, 10, 11] hp (dt_cmp (pc_P op_ltP (de_var 5) (de_callB call_lenP h_len (by decide +kernel) (da_cons (de_var 3) (da_nil))))) (dss_cons (ds_asg (de_ix ix_P (de_var 3) (de_var 5)) (dg_tup (dgs_cons (dg_name 6 sc.nd) (dgs_cons (dg_name 7 sc.nd) (dgs_nil)))))
      (dss_cons (ds_if (dt_cmp (pc_P (op_eqP hr.units) (de_var 6) (de_var 2))) (dss_one (ds_ret (de_var 7))) (dss_nil))
      (dss_cons (ds_for [8, 9, 10, 11] hp (di_seq (de_callB (call_sortedP hr.units) h_sorted (by decide +kernel) (da_cons (de_call c_steps_from runF_tame hr tk (da_cons (de_var 0) (da_cons (de_var 6) (da_nil)))) (da_nil)))) (dg_tup (dgs_cons (dg_name 8 sc.nd) (dgs_cons (dg_name 9 sc.nd) (dgs_cons (dg_name 10 sc.nd) (dgs_cons (dg_name 11 sc.nd) (dgs_nil)))))) (dss_one (ds_if (dt_cmp (pc_notInD (hu1 hr.units) (de_var 10) (de_var 4))) (dss_cons (ds_put (hu_of hr) (de_var 4) (de_var 10) (de_bl))
          (dss_one (ds_expr (de_append (pe_bm PySem.F.plainAttrs_list PySem.F.slot_list_append PySem.F.type_list_append mt_append (de_var 3) (da_cons (de_tup (da_cons (de_var 10) (da_cons (de_bin op_addP (de_var 7) (de_tup (da_cons (de_tup (da_cons (de_var 8) (da_cons (de_var 9) (da_nil)))) (da_nil)))) (da_nil)))) da_nil)))))) (dss_nil))))
      (dss_one (ds_set 5 sc.nd (de_bin op_addP (de_var 5) (de_int))))))))
    (dss_one (ds_ret (de_non))))))
set_option maxHeartbeats 4000000 in
theorem ok_led {fa : Addr} {fd : FuncData} (F : Fun K "led" "led" (topS 7) fa fd)  : FnOk P w K mg base (L2.CX P w) 1 fa fd ["sheet", "mark", "steps"] (spF K mg (f_led) 3) := by
  have sc : FnScope ["sheet", "mark", "steps", "total", "number", "is_on", "first", "last", "rest", "start", "mark_after", "more"] ["sheet", "mark", "steps"] (defScope (topS 7)) := ⟨rfl, rfl, rfl, by decide +kernel, rfl, by decide +kernel, by decide +kernel⟩
  refine fn_ok2 ["sheet", "mark", "steps", "total", "number", "is_on", "first", "last", "rest", "start", "mark_after", "more"] 0 (b_led) F sc rfl rfl fun cdv A outer s H E hr tk hp => ?_
  exact dss_cons (ds_set 3 sc.nd (de_int))
    (dss_cons (ds_for [4, 5, 6, 7, 8, 9, 10, 11] hp (di_seq (de_var 2)) (dg_tup (dgs_cons (dg_name 4 sc.nd) (dgs_cons (dg_name 5 sc.nd) (dgs_nil)))) (dss_cons (ds_asg (de_ix ix_P (de_ix ix_P (de_var 0) (de_int)) (de_var 4)) (dg_tup (dgs_cons (dg_name 6 sc.nd) (dgs_cons (dg_name 7 sc.nd) (dgs_cons (dg_name 8 sc.nd) (dgs_nil))))))
      (dss_cons (ds_if (dt_tr (de_var 5)) (dss_one (ds_par3 9 10 11 sc.nd (de_var 6) (de_var 7) (de_var 8))) (dss_one (ds_par3 9 10 11 sc.nd (de_var 7) (de_var 6) (de_bin op_subP (de_int) (de_var 8)))))
      (dss_cons (ds_if (dt_cmp (pc_P (op_neP hr.units) (de_var 9) (de_var 1))) (dss_one (ds_ret (de_non))) (dss_nil))
      (dss_cons (ds_set 1 sc.nd (de_var 10))
      (dss_one (ds_set 3 sc.nd (de_bin op_addP (de_var 3) (de_var 11)))))))))
    (dss_one (ds_ret (de_tup (da_cons (de_var 1) (da_cons (de_bin op_modP (de_var 3) (de_ix ix_P (de_var 0) (de_int))) (da_nil)))))))
set_option maxHeartbeats 4000000 in
theorem ok_first_clash {fa : Addr} {fd : FuncData} (F : Fun K "first_clash" "first_clash" (topS 8) fa fd) (h_enumerate : mg "enumerate" = none) (c_way : Cal P w K mg base 2 "way" 3 f_way) (c_led : Cal P w K mg base 2 "led" 3 f_led) : FnOk P w K mg base (L2.CX P w) 3 fa fd ["sheet"] (spF K mg (f_first_clash) 1) := by
  have sc : FnScope ["sheet", "long", "by", "facts", "number", "first", "last", "rest", "ahead", "steps"] ["sheet"] (defScope (topS 8)) := ⟨rfl, rfl, rfl, by decide +kernel, rfl, by decide +kernel, by decide +kernel⟩
  refine fn_ok2 ["sheet", "long", "by", "facts", "number", "first", "last", "rest", "ahead", "steps"] 2 (b_first_clash) F sc rfl rfl fun cdv A outer s H E hr tk hp => ?_
  exact dss_cons (ds_asg (de_var 0) (dg_tup (dgs_cons (dg_name 1 sc.nd) (dgs_cons (dg_name 2 sc.nd) (dgs_cons (dg_name 3 sc.nd) (dgs_nil))))))
    (dss_cons (ds_for [4, 5, 6, 7, 8, 9] hp (di_enum h_enumerate (de_var 3)) (dg_tup (dgs_cons (dg_name 4 sc.nd) (dgs_cons (dg_tup (dgs_cons (dg_name 5 sc.nd) (dgs_cons (dg_name 6 sc.nd) (dgs_cons (dg_name 7 sc.nd) (dgs_nil))))) (dgs_nil)))) (dss_cons (ds_set 8 sc.nd (de_tup (da_cons (de_var 1) (da_cons (de_var 2) (da_cons (de_slice (de_var 3) do_none (do_some (de_var 4))) (da_nil))))))
      (dss_cons (ds_set 9 sc.nd (de_call c_way runF_tame hr tk (da_cons (de_var 8) (da_cons (de_var 5) (da_cons (de_var 6) (da_nil))))))
      (dss_one (ds_if (dt_w (dw_and (dt_cmp (pc_P op_isNotP (de_var 9) (de_non))) (dw_and1 (dt_cmp (pc_P (op_neP hr.units) (de_ix ix_P (de_call c_led runF_tame hr tk (da_cons (de_var 8) (da_cons (de_var 5) (da_cons (de_var 9) (da_nil))))) (de_int)) (de_var 7)))))) (dss_one (ds_ret (de_var 4))) (dss_nil))))))
    (dss_one (ds_ret (de_non))))
set_option maxHeartbeats 4000000 in
theorem ok_need_none {fa : Addr} {fd : FuncData} (F : Fun K "need_none" "need_none" (topS 9) fa fd) (x_Clash : Xc K mg "Clash") (c_first_clash : Cal P w K mg base 3 "first_clash" 1 f_first_clash) : FnOk P w K mg base (L2.CX P w) 4 fa fd ["sheet"] (spF K mg (f_need_none) 1) := by
  have sc : FnScope ["sheet"] ["sheet"] (defScope (topS 9)) := ⟨rfl, rfl, rfl, by decide +kernel, rfl, by decide +kernel, by decide +kernel⟩
  refine fn_ok2 ["sheet"] 3 (b_need_none) F sc rfl rfl fun cdv A outer s H E hr tk hp => ?_
  exact dss_one (ds_if (dt_cmp (pc_P op_isNotP (de_call c_first_clash runF_tame hr tk (da_cons (de_var 0) (da_nil))) (de_non))) (dss_one (ds_raise x_Clash tk)) (dss_nil))
set_option maxHeartbeats 4000000 in
theorem ok_told {fa : Addr} {fd : FuncData} (F : Fun K "told" "told" (topS 10) fa fd) (c_need_none : Cal P w K mg base 4 "need_none" 1 f_need_none) (c_way : Cal P w K mg base 4 "way" 3 f_way) (c_led : Cal P w K mg base 4 "led" 3 f_led) : FnOk P w K mg base (L2.CX P w) 5 fa fd ["sheet", "first", "last"] (spF K mg (f_told) 3) := by
  have sc : FnScope ["sheet", "first", "last", "steps"] ["sheet", "first", "last"] (defScope (topS 10)) := ⟨rfl, rfl, rfl, by decide +kernel, rfl, by decide +kernel, by decide +kernel⟩
  refine fn_ok2 ["sheet", "first", "last", "steps"] 4 (b_told) F sc rfl rfl fun cdv A outer s H E hr tk hp => ?_
  exact dss_cons (ds_expr (de_call c_need_none runF_tame hr tk (da_cons (de_var 0) (da_nil))))
    (dss_cons (ds_set 3 sc.nd (de_call c_way runF_tame hr tk (da_cons (de_var 0) (da_cons (de_var 1) (da_cons (de_var 2) (da_nil))))))
    (dss_cons (ds_if (dt_cmp (pc_P op_isP (de_var 3) (de_non))) (dss_one (ds_ret (de_non))) (dss_nil))
    (dss_one (ds_ret (de_ix ix_P (de_call c_led runF_tame hr tk (da_cons (de_var 0) (da_cons (de_var 1) (da_cons (de_var 3) (da_nil))))) (de_int))))))
set_option maxHeartbeats 4000000 in
theorem ok_divisor {fa : Addr} {fd : FuncData} (F : Fun K "divisor" "divisor" (topS 12) fa fd)  : FnOk P w K mg base (L2.CX P w) 1 fa fd ["one", "other"] (spF K mg (f_divisor) 2) := by
  have sc : FnScope ["one", "other"] ["one", "other"] (defScope (topS 12)) := ⟨rfl, rfl, rfl, by decide +kernel, rfl, by decide +kernel, by decide +kernel⟩
  refine fn_ok2 ["one", "other"] 0 (b_divisor) F sc rfl rfl fun cdv A outer s H E hr tk hp => ?_
  exact dss_cons (ds_while 1000000 [] hp (dt_cmp (pc_P (op_neP hr.units) (de_var 1) (de_int))) (dss_one (ds_par2 0 1 sc.nd (de_var 1) (de_bin op_modP (de_var 0) (de_var 1)))))
    (dss_one (ds_ret (de_var 0)))
set_option maxHeartbeats 4000000 in
theorem ok_told_both {fa : Addr} {fd : FuncData} (F : Fun K "told_both" "told_both" (topS 13) fa fd) (x_NoRest : Xc K mg "NoRest") (c_divisor : Cal P w K mg base 5 "divisor" 2 f_divisor) (c_told : Cal P w K mg base 5 "told" 3 f_told) : FnOk P w K mg base (L2.CX P w) 6 fa fd ["one", "other", "first", "last"] (spF K mg (f_told_both) 4) := by
  have sc : FnScope ["one", "other", "first", "last", "mine", "yours", "rest"] ["one", "other", "first", "last"] (defScope (topS 13)) := ⟨rfl, rfl, rfl, by decide +kernel, rfl, by decide +kernel, by decide +kernel⟩
  refine fn_ok2 ["one", "other", "first", "last", "mine", "yours", "rest"] 5 (b_told_both) F sc rfl rfl fun cdv A outer s H E hr tk hp => ?_
  exact dss_cons (ds_if (dt_cmp (pc_P (op_neP hr.units) (de_call c_divisor runF_tame hr tk (da_cons (de_ix ix_P (de_var 0) (de_int)) (da_cons (de_ix ix_P (de_var 1) (de_int)) (da_nil)))) (de_int))) (dss_one (ds_raise x_NoRest tk)) (dss_nil))
    (dss_cons (ds_set 4 sc.nd (de_call c_told runF_tame hr tk (da_cons (de_var 0) (da_cons (de_var 2) (da_cons (de_var 3) (da_nil))))))
    (dss_cons (ds_set 5 sc.nd (de_call c_told runF_tame hr tk (da_cons (de_var 1) (da_cons (de_var 2) (da_cons (de_var 3) (da_nil))))))
    (dss_cons (ds_if (dt_w (dw_or (dt_cmp (pc_P op_isP (de_var 4) (de_non))) (dw_or1 (dt_cmp (pc_P op_isP (de_var 5) (de_non)))))) (dss_one (ds_ret (de_non))) (dss_nil))
    (dss_cons (ds_set 6 sc.nd (de_var 4))
    (dss_cons (ds_while 1000000 [] hp (dt_cmp (pc_P (op_neP hr.units) (de_bin op_modP (de_var 6) (de_ix ix_P (de_var 1) (de_int))) (de_var 5))) (dss_one (ds_set 6 sc.nd (de_bin op_addP (de_var 6) (de_ix ix_P (de_var 0) (de_int))))))
    (dss_one (ds_ret (de_var 6))))))))
set_option maxHeartbeats 4000000 in
theorem ok_l_draw_2 {fa : Addr} {fd : FuncData} (F : Fun K "_law_draw" "_law_draw" (topS 15) fa fd) (h_len : mg "len" = none) : FnOk P w K mg base (L2.CX P w) 1 fa fd ["script", "town", "many"] (spF K mg (f_l_draw_2) 3) := by
  have sc : FnScope ["script", "town", "many", "k", "cell", "number", "more"] ["script", "town", "many"] (defScope (topS 15)) := ⟨rfl, rfl, rfl, by decide +kernel, rfl, by decide +kernel, by decide +kernel⟩
  refine fn_ok2 ["script", "town", "many", "k", "cell", "number", "more"] 0 (b_l_draw_2) F sc rfl rfl fun cdv A outer s H E hr tk hp => ?_
  exact dss_cons (ds_expr (de_append (pe_bm PySem.F.plainAttrs_list PySem.F.slot_list_append PySem.F.type_list_append mt_append (de_var 1) (da_cons (de_int) da_nil))))
    (dss_cons (ds_set 3 sc.nd (de_callB call_lenP h_len (by decide +kernel) (da_cons (de_var 1) (da_nil))))
    (dss_cons (ds_set 4 sc.nd (de_int))
    (dss_cons (ds_if (dt_tr (de_var 0)) (dss_one (ds_set 4 sc.nd (de_ix ix_P (de_var 0) (de_bin op_modP (de_var 3) (de_callB call_lenP h_len (by decide +kernel) (da_cons (de_var 0) (da_nil))))))) (dss_nil))
    (dss_cons (ds_set 5 sc.nd (de_bin op_modP (de_bin op_addP (de_var 4) (de_bin op_mulP (de_int) (de_var 3))) (de_int)))
    (dss_cons (ds_set 5 sc.nd (de_bin op_modP (de_bin op_mulP (de_bin op_modP (de_bin op_mulP (de_var 5) (de_var 5)) (de_int)) (de_int)) (de_int)))
    (dss_cons (ds_set 6 sc.nd (de_bin op_modP (de_bin op_mulP (de_bin op_modP (de_bin op_mulP (de_var 5) (de_var 5)) (de_int)) (de_int)) (de_int)))
    (dss_one (ds_ret (de_bin op_modP (de_bin op_addP (de_bin op_mulP (de_bin op_fdivP (de_var 5) (de_int)) (de_int)) (de_bin op_fdivP (de_var 6) (de_int))) (de_var 2))))))))))
set_option maxHeartbeats 4000000 in
theorem ok_l_pick {fa : Addr} {fd : FuncData} (F : Fun K "_law_pick" "_law_pick" (topS 16) fa fd) (h_len : mg "len" = none) (c_l_draw_2 : Cal P w K mg base 1 "_law_draw" 3 f_l_draw_2) : FnOk P w K mg base (L2.CX P w) 2 fa fd ["script", "town", "some"] (spF K mg (f_l_pick f_l_draw_2) 3) := by
  have sc : FnScope ["script", "town", "some"] ["script", "town", "some"] (defScope (topS 16)) := ⟨rfl, rfl, rfl, by decide +kernel, rfl, by decide +kernel, by decide +kernel⟩
  refine fn_ok2 ["script", "town", "some"] 1 (b_l_pick f_l_draw_2) F sc rfl rfl fun cdv A outer s H E hr tk hp => ?_
  exact dss_one (ds_ret (de_ix ix_P (de_var 2) (de_call c_l_draw_2 runF_tame hr tk (da_cons (de_var 0) (da_cons (de_var 1) (da_cons (de_callB call_lenP h_len (by decide +kernel) (da_cons (de_var 2) (da_nil))) (da_nil)))))))
set_option maxHeartbeats 4000000 in
theorem ok_l_facts_2 {fa : Addr} {fd : FuncData} (F : Fun K "_law_facts" "_law_facts" (topS 18) fa fd) (h_range : mg "range" = none) (h_len : mg "len" = none) (h_min : mg "min" = none) (h_sum : mg "sum" = none) (c_l_draw_2 : Cal P w K mg base 2 "_law_draw" 3 f_l_draw_2) (c_l_pick : Cal P w K mg base 2 "_law_pick" 3 (f_l_pick f_l_draw_2)) : FnOk P w K mg base (L2.CX P w) 3 fa fd ["script", "town", "row", "by", "most"] (spF K mg (f_l_facts_2 f_l_draw_2) 5) := by
  have sc : FnScope ["script", "town", "row", "by", "most", "got", "k", "first", "most_far", "last", "rest"] ["script", "town", "row", "by", "most"] (defScope (topS 18)) := ⟨rfl, rfl, rfl, by decide +kernel, rfl, by decide +kernel, by decide +kernel⟩
  refine fn_ok2 ["script", "town", "row", "by", "most", "got", "k", "first", "most_far", "last", "rest"] 2 (b_l_facts_2 f_l_draw_2) F sc rfl rfl fun cdv A outer s H E hr tk hp => ?_
  exact dss_cons (ds_set 5 sc.nd (de_tup (da_nil)))
    (dss_cons (ds_for [6, 7, 8, 9, 10] hp (di_range1 h_range (de_call c_l_draw_2 runF_tame hr tk (da_cons (de_var 0) (da_cons (de_var 1) (da_cons (de_bin op_addP (de_var 4) (de_int)) (da_nil)))))) (dg_name 6 sc.nd) (dss_cons (ds_set 7 sc.nd (de_call c_l_draw_2 runF_tame hr tk (da_cons (de_var 0) (da_cons (de_var 1) (da_cons (de_callB call_lenP h_len (by decide +kernel) (da_cons (de_var 2) (da_nil))) (da_nil))))))
      (dss_cons (ds_set 8 sc.nd (de_call c_l_pick runF_tame hr tk (da_cons (de_var 0) (da_cons (de_var 1) (da_cons (de_lst (da_cons (de_bin op_subP (de_callB call_lenP h_len (by decide +kernel) (da_cons (de_var 2) (da_nil))) (de_var 7)) (da_cons (de_callB (call_minP rfl) h_min (by decide +kernel) (da_cons (de_int) (da_cons (de_bin op_subP (de_callB call_lenP h_len (by decide +kernel) (da_cons (de_var 2) (da_nil))) (de_var 7)) (da_nil)))) (da_nil)))) (da_nil))))))
      (dss_cons (ds_set 9 sc.nd (de_bin op_addP (de_bin op_addP (de_var 7) (de_int)) (de_call c_l_draw_2 runF_tame hr tk (da_cons (de_var 0) (da_cons (de_var 1) (da_cons (de_var 8) (da_nil)))))))
      (dss_cons (ds_set 10 sc.nd (de_callB (call_sumP rfl) h_sum (by decide +kernel) (da_cons (de_slice (de_var 2) (do_some (de_var 7)) (do_some (de_var 9))) (da_nil))))
      (dss_one (ds_set 5 sc.nd (de_bin op_addP (de_var 5) (de_tup (da_cons (de_tup (da_cons (de_var 7) (da_cons (de_var 9) (da_cons (de_bin op_subP (de_var 10) (de_bin op_mulP (de_bin op_fdivP (de_var 10) (de_var 3)) (de_var 3))) (da_nil))))) (da_nil)))))))))))
    (dss_one (ds_ret (de_var 5))))
set_option maxHeartbeats 4000000 in
theorem ok_l_lied {fa : Addr} {fd : FuncData} (F : Fun K "_law_lied" "_law_lied" (topS 20) fa fd) (h_len : mg "len" = none) (c_l_draw_2 : Cal P w K mg base 1 "_law_draw" 3 f_l_draw_2) : FnOk P w K mg base (L2.CX P w) 2 fa fd ["script", "town", "sheet"] (spF K mg (f_l_lied f_l_draw_2) 3) := by
  have sc : FnScope ["script", "town", "sheet", "long", "by", "facts", "at", "first", "last", "rest", "wrong"] ["script", "town", "sheet"] (defScope (topS 20)) := ⟨rfl, rfl, rfl, by decide +kernel, rfl, by decide +kernel, by decide +kernel⟩
  refine fn_ok2 ["script", "town", "sheet", "long", "by", "facts", "at", "first", "last", "rest", "wrong"] 1 (b_l_lied f_l_draw_2) F sc rfl rfl fun cdv A outer s H E hr tk hp => ?_
  exact dss_cons (ds_asg (de_var 2) (dg_tup (dgs_cons (dg_name 3 sc.nd) (dgs_cons (dg_name 4 sc.nd) (dgs_cons (dg_name 5 sc.nd) (dgs_nil))))))
    (dss_cons (ds_if (dt_cmp (pc_P (op_eqP hr.units) (de_var 5) (de_tup (da_nil)))) (dss_one (ds_ret (de_var 2))) (dss_nil))
    (dss_cons (ds_set 6 sc.nd (de_call c_l_draw_2 runF_tame hr tk (da_cons (de_var 0) (da_cons (de_var 1) (da_cons (de_callB call_lenP h_len (by decide +kernel) (da_cons (de_var 5) (da_nil))) (da_nil))))))
    (dss_cons (ds_asg (de_ix ix_P (de_var 5) (de_var 6)) (dg_tup (dgs_cons (dg_name 7 sc.nd) (dgs_cons (dg_name 8 sc.nd) (dgs_cons (dg_name 9 sc.nd) (dgs_nil))))))
    (dss_cons (ds_set 10 sc.nd (de_bin op_addP (de_bin op_addP (de_var 9) (de_int)) (de_call c_l_draw_2 runF_tame hr tk (da_cons (de_var 0) (da_cons (de_var 1) (da_cons (de_bin op_subP (de_var 4) (de_int)) (da_nil)))))))
    (dss_one (ds_ret (de_tup (da_cons (de_var 3) (da_cons (de_var 4) (da_cons (de_bin op_addP (de_bin op_addP (de_slice (de_var 5) do_none (do_some (de_var 6))) (de_tup (da_cons (de_tup (da_cons (de_var 7) (da_cons (de_var 8) (da_cons (de_bin op_subP (de_var 10) (de_bin op_mulP (de_bin op_fdivP (de_var 10) (de_var 4)) (de_var 4))) (da_nil))))) (da_nil)))) (de_slice (de_var 5) (do_some (de_bin op_addP (de_var 6) (de_int))) do_none)) (da_nil)))))))))))
set_option maxHeartbeats 4000000 in
theorem ok_l_stretches {fa : Addr} {fd : FuncData} (F : Fun K "_law_stretches" "_law_stretches" (topS 21) fa fd) (h_range : mg "range" = none) : FnOk P w K mg base (L2.CX P w) 1 fa fd ["long"] (spF K mg (f_l_stretches) 1) := by
  have sc : FnScope ["long", "got", "first", "last"] ["long"] (defScope (topS 21)) := ⟨rfl, rfl, rfl, by decide +kernel, rfl, by decide +kernel, by decide +kernel⟩
  refine fn_ok2 ["long", "got", "first", "last"] 0 (b_l_stretches) F sc rfl rfl fun cdv A outer s H E hr tk hp => ?_
  exact dss_cons (ds_set 1 sc.nd (de_newL (da_nil)))
    (dss_cons (ds_for [2] hp (di_range1 h_range (de_var 0)) (dg_name 2 sc.nd) (dss_one (ds_expr (de_extend (pe_bm PySem.F.plainAttrs_list PySem.F.slot_list_extend PySem.F.type_list_extend mt_extend (de_var 1) (da_cons (de_lc [("last", 3)] sc.nd (di_range2 h_range (de_bin op_addP (de_var 2) (de_int)) (de_bin op_addP (de_var 0) (de_int))) (blkOk_by (N := ["long", "got", "first", "last"]) (sc := defScope (topS 21)) (by decide +kernel)) (fun _ _ _ _ _ => dg_name 3 sc.nd) (fun _ _ _ _ _ => dts_nil) (fun _ _ _ _ _ => de_tup (da_cons (de_var 2) (da_cons (de_var 3) (da_nil))))) da_nil))))))
    (dss_one (ds_ret (de_mv 1))))
set_option maxHeartbeats 4000000 in
theorem ok_l_rest {fa : Addr} {fd : FuncData} (F : Fun K "_law_rest" "_law_rest" (topS 22) fa fd)  : FnOk P w K mg base (L2.CX P w) 1 fa fd ["number", "by"] (spF K mg (f_l_rest) 2) := by
  have sc : FnScope ["number", "by"] ["number", "by"] (defScope (topS 22)) := ⟨rfl, rfl, rfl, by decide +kernel, rfl, by decide +kernel, by decide +kernel⟩
  refine fn_ok2 ["number", "by"] 0 (b_l_rest) F sc rfl rfl fun cdv A outer s H E hr tk hp => ?_
  exact dss_one (ds_ret (de_bin op_subP (de_var 0) (de_bin op_mulP (de_bin op_fdivP (de_var 0) (de_var 1)) (de_var 1))))
set_option maxHeartbeats 4000000 in
theorem ok_l_divisor {fa : Addr} {fd : FuncData} (F : Fun K "_law_divisor" "_law_divisor" (topS 23) fa fd) (c_l_rest : Cal P w K mg base 1 "_law_rest" 2 f_l_rest) : FnOk P w K mg base (L2.CX P w) 2 fa fd ["one", "other"] (spF K mg (f_l_divisor) 2) := by
  have sc : FnScope ["one", "other"] ["one", "other"] (defScope (topS 23)) := ⟨rfl, rfl, rfl, by decide +kernel, rfl, by decide +kernel, by decide +kernel⟩
  refine fn_ok2 ["one", "other"] 1 (b_l_divisor) F sc rfl rfl fun cdv A outer s H E hr tk hp => ?_
  exact dss_cons (ds_while 1000000 [] hp (dt_tr (de_var 1)) (dss_one (ds_par2 0 1 sc.nd (de_var 1) (de_call c_l_rest runF_tame hr tk (da_cons (de_var 0) (da_cons (de_var 1) (da_nil)))))))
    (dss_one (ds_ret (de_var 0)))
set_option maxHeartbeats 4000000 in
theorem ok_l_both {fa : Addr} {fd : FuncData} (F : Fun K "_law_both" "_law_both" (topS 24) fa fd) (x_Clash : Xc K mg "Clash") (xm_NoRest_Clash : Xm K mg "NoRest" "Clash") (xm_Clash_Clash : Xm K mg "Clash" "Clash") (x_NoRest : Xc K mg "NoRest") (xm_NoRest_NoRest : Xm K mg "NoRest" "NoRest") (xm_Clash_NoRest : Xm K mg "Clash" "NoRest") (c_told_both : Cal P w K mg base 6 "told_both" 4 f_told_both) : FnOk P w K mg base (L2.CX P w) 7 fa fd ["one", "other", "first", "last"] (spF K mg (f_l_both) 4) := by
  have sc : FnScope ["one", "other", "first", "last"] ["one", "other", "first", "last"] (defScope (topS 24)) := ⟨rfl, rfl, rfl, by decide +kernel, rfl, by decide +kernel, by decide +kernel⟩
  refine fn_ok2 ["one", "other", "first", "last"] 6 (b_l_both) F sc rfl rfl fun cdv A outer s H E hr tk hp => ?_
  exact dss_one (ds_try (kn := ["Clash", "NoRest"]) tk (fun W1 pn1 xe1 tk1 hp1 => dss_one (ds_ret (de_call c_told_both runF_tame hr tk1 (da_cons (de_var 0) (da_cons (de_var 1) (da_cons (de_var 2) (da_cons (de_var 3) (da_nil)))))))) (TrOk.cons x_NoRest rfl (by decide) (List.forall_mem_cons.mpr ⟨xm_Clash_NoRest, List.forall_mem_cons.mpr ⟨xm_NoRest_NoRest, fun _ h => nomatch h⟩⟩) (fun _ _ _ => dss_one (ds_ret (de_str))) (TrOk.cons x_Clash rfl (by decide) (List.forall_mem_cons.mpr ⟨xm_Clash_Clash, List.forall_mem_cons.mpr ⟨xm_NoRest_Clash, fun _ h => nomatch h⟩⟩) (fun _ _ _ => dss_one (ds_ret (de_str))) (TrOk.nil))))
set_option maxHeartbeats 4000000 in
theorem ok_l_true_hold {fa : Addr} {fd : FuncData} (F : Fun K "_law_true_hold" "_law_true_hold" (topS 25) fa fd) (h_sum : mg "sum" = none) (c_l_stretches : Cal P w K mg base 7 "_law_stretches" 1 f_l_stretches) (c_told : Cal P w K mg base 7 "told" 3 f_told) (c_l_both : Cal P w K mg base 7 "_law_both" 4 f_l_both) (c_l_rest : Cal P w K mg base 7 "_law_rest" 2 f_l_rest) : FnOk P w K mg base (L2.CX P w) 8 fa fd ["one", "other", "great"] (spF K mg (f_l_true_hold) 3) := by
  have sc : FnScope ["one", "other", "great", "long", "low", "high", "known", "first", "last", "mine", "yours", "both", "middle", "start", "due"] ["one", "other", "great"] (defScope (topS 25)) := ⟨rfl, rfl, rfl, by decide +kernel, rfl, by decide +kernel, by decide +kernel⟩
  refine fn_ok2 ["one", "other", "great", "long", "low", "high", "known", "first", "last", "mine", "yours", "both", "middle", "start", "due"] 7 (b_l_true_hold) F sc rfl rfl fun cdv A outer s H E hr tk hp => ?_
  exact dss_cons (ds_parN (da_cons (de_ix ix_P (de_var 0) (de_int)) (da_cons (de_ix ix_P (de_var 0) (de_int)) (da_cons (de_ix ix_P (de_var 1) (de_int)) (da_cons (de_newT) (da_nil))))) (dgn_cons 3 sc.nd (dgn_cons 4 sc.nd (dgn_cons 5 sc.nd (dgn_cons 6 sc.nd (dgn_nil))))))
    (dss_cons (ds_for [7, 8, 9, 10, 11] hp (di_seq (de_call c_l_stretches runF_tame hr tk (da_cons (de_var 3) (da_nil)))) (dg_tup (dgs_cons (dg_name 7 sc.nd) (dgs_cons (dg_name 8 sc.nd) (dgs_nil)))) (dss_cons (ds_par2 9 10 sc.nd (de_call c_told runF_tame hr tk (da_cons (de_var 0) (da_cons (de_var 7) (da_cons (de_var 8) (da_nil))))) (de_call c_told runF_tame hr tk (da_cons (de_var 1) (da_cons (de_var 7) (da_cons (de_var 8) (da_nil))))))
      (dss_cons (ds_set 11 sc.nd (de_call c_l_both runF_tame hr tk (da_cons (de_var 0) (da_cons (de_var 1) (da_cons (de_var 7) (da_cons (de_var 8) (da_nil)))))))
      (dss_cons (ds_if (dt_w (dw_or (dt_cmp (pc_P (op_neP hr.units) (de_call c_l_both runF_tame hr tk (da_cons (de_var 1) (da_cons (de_var 0) (da_cons (de_var 7) (da_cons (de_var 8) (da_nil)))))) (de_var 11))) (dw_or1 (dt_cmp (pc_P (op_neP hr.units) (de_cmp (pc_P op_isP (de_var 11) (de_non))) (de_or (de_cmp (pc_P op_isP (de_var 9) (de_non))) (de_one (de_cmp (pc_P op_isP (de_var 10) (de_non)))))))))) (dss_one (ds_ret (de_bl))) (dss_nil))
      (dss_cons (ds_if (dt_cmp (pc_P op_isP (de_var 11) (de_non))) (dss_one (ds_cont)) (dss_nil))
      (dss_cons (ds_if (dt_cmp (pc_P (op_neP hr.units) (de_var 11) (de_call c_l_rest runF_tame hr tk (da_cons (de_callB (call_sumP rfl) h_sum (by decide +kernel) (da_cons (de_slice (de_var 2) (do_some (de_var 7)) (do_some (de_var 8))) (da_nil))) (da_cons (de_bin op_mulP (de_var 4) (de_var 5)) (da_nil)))))) (dss_one (ds_ret (de_bl))) (dss_nil))
      (dss_cons (ds_if (dt_w (dw_or (dt_cmp (pc_P (op_neP hr.units) (de_call c_l_rest runF_tame hr tk (da_cons (de_var 11) (da_cons (de_var 4) (da_nil)))) (de_var 9))) (dw_or1 (dt_cmp (pc_P (op_neP hr.units) (de_call c_l_rest runF_tame hr tk (da_cons (de_var 11) (da_cons (de_var 5) (da_nil)))) (de_var 10)))))) (dss_one (ds_ret (de_bl))) (dss_nil))
      (dss_one (ds_putT (hu_of hr) (de_var 6) (de_tup (da_cons (de_var 7) (da_cons (de_var 8) (da_nil)))) (de_var 11))))))))))
    (dss_cons (ds_fz 6 (ds_forT 6 [7, 8, 12, 13, 14] hp (dg_tup (dgs_cons (dg_name 7 sc.nd) (dgs_cons (dg_name 12 sc.nd) (dgs_nil)))) (dss_one (ds_forT 6 [8, 13, 14] hp (dg_tup (dgs_cons (dg_name 13 sc.nd) (dgs_cons (dg_name 8 sc.nd) (dgs_nil)))) (dss_cons (ds_set 14 sc.nd (de_call c_l_rest runF_tame hr tk (da_cons (de_bin op_addP (de_tget (hu1 hr.units) (de_var 6) (de_tup (da_cons (de_var 7) (da_cons (de_var 12) (da_nil))))) (de_tget (hu1 hr.units) (de_var 6) (de_tup (da_cons (de_var 13) (da_cons (de_var 8) (da_nil)))))) (da_cons (de_bin op_mulP (de_var 4) (de_var 5)) (da_nil)))))
        (dss_one (ds_if (dt_w (dw_and (dt_cmp (pc_P (op_eqP hr.units) (de_var 13) (de_var 12))) (dw_and1 (dt_cmp (pc_P (op_neP hr.units) (de_tget1 (hu1 hr.units) (de_var 6) (de_tup (da_cons (de_var 7) (da_cons (de_var 8) (da_nil))))) (de_var 14)))))) (dss_one (ds_ret (de_bl))) (dss_nil))))))))
    (dss_one (ds_ret (de_bl)))))
set_option maxHeartbeats 4000000 in
theorem ok_law_k38 {fa : Addr} {fd : FuncData} (F : Fun K "law" "law" (topS 26) fa fd) (h_range : mg "range" = none) (h_tuple : mg "tuple" = none) (c_l_draw_2 : Cal P w K mg base 8 "_law_draw" 3 f_l_draw_2) (c_l_facts_2 : Cal P w K mg base 8 "_law_facts" 5 (f_l_facts_2 f_l_draw_2)) (c_l_rest : Cal P w K mg base 8 "_law_rest" 2 f_l_rest) (c_l_lied : Cal P w K mg base 8 "_law_lied" 3 (f_l_lied f_l_draw_2)) (c_l_divisor : Cal P w K mg base 8 "_law_divisor" 2 f_l_divisor) (c_l_both : Cal P w K mg base 8 "_law_both" 4 f_l_both) (c_l_true_hold : Cal P w K mg base 8 "_law_true_hold" 3 f_l_true_hold) (c_first_clash : Cal P w K mg base 8 "first_clash" 1 f_first_clash) : FnOk P w K mg base (L2.CX P w) 9 fa fd ["script"] (spF K mg (f_law_k38 f_l_draw_2) 1) := by
  have sc : FnScope ["script", "town", "k", "long", "low", "high", "great", "one", "other", "first", "last", "bad", "some", "due", "place", "cell"] ["script"] (defScope (topS 26)) := ⟨rfl, rfl, rfl, by decide +kernel, rfl, by decide +kernel, by decide +kernel⟩
  refine fn_ok2 ["script", "town", "k", "long", "low", "high", "great", "one", "other", "first", "last", "bad", "some", "due", "place", "cell"] 8 (b_law_k38 f_l_draw_2) F sc rfl rfl fun cdv A outer s H E hr tk hp => ?_
  exact dss_cons (ds_set 1 sc.nd (de_newL (da_nil)))
    (dss_cons (ds_for [2, 3, 4, 5, 6, 7, 8, 9, 10, 11, 12, 13] hp (di_range1 h_range (de_int)) (dg_name 2 sc.nd) (dss_cons (ds_asg (de_tup (da_cons (de_bin op_addP (de_int) (de_call c_l_draw_2 runF_tame hr tk (da_cons (de_var 0) (da_cons (de_var 1) (da_cons (de_int) (da_nil)))))) (da_cons (de_bin op_addP (de_int) (de_call c_l_draw_2 runF_tame hr tk (da_cons (de_var 0) (da_cons (de_var 1) (da_cons (de_int) (da_nil)))))) (da_nil)))) (dg_tup (dgs_cons (dg_name 3 sc.nd) (dgs_cons (dg_name 4 sc.nd) (dgs_nil)))))
      (dss_cons (ds_set 5 sc.nd (de_bin op_addP (de_int) (de_call c_l_draw_2 runF_tame hr tk (da_cons (de_var 0) (da_cons (de_var 1) (da_cons (de_int) (da_nil)))))))
      (dss_cons (ds_set 6 sc.nd (de_callTy call_tupleP h_tuple (by decide +kernel) (da_cons (de_lc [("place", 14)] sc.nd (di_range1 h_range (de_var 3)) (blkOk_by (N := ["script", "town", "k", "long", "low", "high", "great", "one", "other", "first", "last", "bad", "some", "due", "place", "cell"]) (sc := defScope (topS 26)) (by decide +kernel)) (fun _ _ _ _ _ => dg_name 14 sc.nd) (fun _ _ _ _ _ => dts_nil) (fun _ _ _ _ _ => de_call c_l_draw_2 runF_tame hr takes0 (da_cons (de_var 0) (da_cons (de_var 1) (da_cons (de_int) (da_nil)))))) (da_nil))))
      (dss_cons (ds_set 7 sc.nd (de_tup (da_cons (de_var 3) (da_cons (de_var 4) (da_cons (de_call c_l_facts_2 runF_tame hr tk (da_cons (de_var 0) (da_cons (de_var 1) (da_cons (de_callTy call_tupleP h_tuple (by decide +kernel) (da_cons (de_lc [("cell", 15)] sc.nd (di_seq (de_var 6)) (blkOk_by (N := ["script", "town", "k", "long", "low", "high", "great", "one", "other", "first", "last", "bad", "some", "due", "place", "cell"]) (sc := defScope (topS 26)) (by decide +kernel)) (fun _ _ _ _ _ => dg_name 15 sc.nd) (fun _ _ _ _ _ => dts_nil) (fun _ _ _ _ _ => de_call c_l_rest runF_tame hr takes0 (da_cons (de_var 15) (da_cons (de_var 4) (da_nil))))) (da_nil))) (da_cons (de_var 4) (da_cons (de_int) (da_nil))))))) (da_nil))))))
      (dss_cons (ds_set 8 sc.nd (de_tup (da_cons (de_var 3) (da_cons (de_var 5) (da_cons (de_call c_l_facts_2 runF_tame hr tk (da_cons (de_var 0) (da_cons (de_var 1) (da_cons (de_callTy call_tupleP h_tuple (by decide +kernel) (da_cons (de_lc [("cell", 15)] sc.nd (di_seq (de_var 6)) (blkOk_by (N := ["script", "town", "k", "long", "low", "high", "great", "one", "other", "first", "last", "bad", "some", "due", "place", "cell"]) (sc := defScope (topS 26)) (by decide +kernel)) (fun _ _ _ _ _ => dg_name 15 sc.nd) (fun _ _ _ _ _ => dts_nil) (fun _ _ _ _ _ => de_call c_l_rest runF_tame hr takes0 (da_cons (de_var 15) (da_cons (de_var 5) (da_nil))))) (da_nil))) (da_cons (de_var 5) (da_cons (de_int) (da_nil))))))) (da_nil))))))
      (dss_cons (ds_set 9 sc.nd (de_call c_l_draw_2 runF_tame hr tk (da_cons (de_var 0) (da_cons (de_var 1) (da_cons (de_var 3) (da_nil))))))
      (dss_cons (ds_set 10 sc.nd (de_bin op_addP (de_bin op_addP (de_var 9) (de_int)) (de_call c_l_draw_2 runF_tame hr tk (da_cons (de_var 0) (da_cons (de_var 1) (da_cons (de_bin op_subP (de_var 3) (de_var 9)) (da_nil)))))))
      (dss_cons (ds_set 11 sc.nd (de_call c_l_lied runF_tame hr tk (da_cons (de_var 0) (da_cons (de_var 1) (da_cons (de_var 7) (da_nil))))))
      (dss_cons (ds_if (dt_cmp (pc_P op_gtP (de_call c_l_divisor runF_tame hr tk (da_cons (de_var 4) (da_cons (de_var 5) (da_nil)))) (de_int))) (dss_cons (ds_for [12] hp (di_seq (de_tup (da_cons (de_var 7) (da_cons (de_var 11) (da_nil))))) (dg_name 12 sc.nd) (dss_cons (ds_if (dt_cmp (pc_P (op_neP hr.units) (de_call c_l_both runF_tame hr tk (da_cons (de_var 12) (da_cons (de_var 8) (da_cons (de_var 9) (da_cons (de_var 10) (da_nil)))))) (de_str))) (dss_one (ds_ret (de_bl))) (dss_nil))
          (dss_one (ds_if (dt_cmp (pc_P (op_neP hr.units) (de_call c_l_both runF_tame hr tk (da_cons (de_var 8) (da_cons (de_var 12) (da_cons (de_var 9) (da_cons (de_var 10) (da_nil)))))) (de_str))) (dss_one (ds_ret (de_bl))) (dss_nil)))))
        (dss_one (ds_cont))) (dss_nil))
      (dss_cons (ds_if (dt_not (dt_tr (de_call c_l_true_hold runF_tame hr tk (da_cons (de_var 7) (da_cons (de_var 8) (da_cons (de_var 6) (da_nil))))))) (dss_one (ds_ret (de_bl))) (dss_nil))
      (dss_cons (ds_set 13 sc.nd (de_cmp (pc_P op_isNotP (de_call c_first_clash runF_tame hr tk (da_cons (de_var 11) (da_nil))) (de_non))))
      (dss_one (ds_for [12] hp (di_seq (de_tup (da_cons (de_call c_l_both runF_tame hr tk (da_cons (de_var 11) (da_cons (de_var 8) (da_cons (de_var 9) (da_cons (de_var 10) (da_nil)))))) (da_cons (de_call c_l_both runF_tame hr tk (da_cons (de_var 8) (da_cons (de_var 11) (da_cons (de_var 9) (da_cons (de_var 10) (da_nil)))))) (da_nil))))) (dg_name 12 sc.nd) (dss_one (ds_if (dt_cmp (pc_P (op_neP hr.units) (de_cmp (pc_P (op_eqP hr.units) (de_var 12) (de_str))) (de_var 13))) (dss_one (ds_ret (de_bl))) (dss_nil)))))))))))))))))
    (dss_one (ds_ret (de_bl))))
end
set_option maxHeartbeats 4000000 in
theorem all_mk {l : PySem.W.OpenLaw} {w : World} {K : PySem.W.Frag} {h : Heap} {mg : Str → Option Value} {fa : Addr} (X : K.In h) (G : h.Ns mainGlobals mg) (hfa : mg "law" = some (.ref fa))
    {od0 an0 : Option Addr} {sl0 : Array (Option Value)} {oc0 kV0 dc0 pm0 cd0 ct0 : Value} {f0 : Addr} (a0 : PySem.W.nsIn K mainGlobals "steps_from" = some (some (.ref f0))) (l0 : K.lookup f0 = some ⟨oc0, od0, .func (PySem.W.fnOf "steps_from" "steps_from" (defArgs (topS 5)) (defBody (topS 5)) (defScope (topS 5)) .none kV0 dc0 pm0 an0 cd0 ct0), sl0⟩) (e0 : PySem.W.codeIn K cd0 "steps_from" = true) (k0 : PySem.W.keepIn K (.ref f0) = true)
    {od1 an1 : Option Addr} {sl1 : Array (Option Value)} {oc1 kV1 dc1 pm1 cd1 ct1 : Value} {f1 : Addr} (a1 : PySem.W.nsIn K mainGlobals "way" = some (some (.ref f1))) (l1 : K.lookup f1 = some ⟨oc1, od1, .func (PySem.W.fnOf "way" "way" (defArgs (topS 6)) (defBody (topS 6)) (defScope (topS 6)) .none kV1 dc1 pm1 an1 cd1 ct1), sl1⟩) (e1 : PySem.W.codeIn K cd1 "way" = true) (k1 : PySem.W.keepIn K (.ref f1) = true)
    {od2 an2 : Option Addr} {sl2 : Array (Option Value)} {oc2 kV2 dc2 pm2 cd2 ct2 : Value} {f2 : Addr} (a2 : PySem.W.nsIn K mainGlobals "led" = some (some (.ref f2))) (l2 : K.lookup f2 = some ⟨oc2, od2, .func (PySem.W.fnOf "led" "led" (defArgs (topS 7)) (defBody (topS 7)) (defScope (topS 7)) .none kV2 dc2 pm2 an2 cd2 ct2), sl2⟩) (e2 : PySem.W.codeIn K cd2 "led" = true) (k2 : PySem.W.keepIn K (.ref f2) = true)
    {od3 an3 : Option Addr} {sl3 : Array (Option Value)} {oc3 kV3 dc3 pm3 cd3 ct3 : Value} {f3 : Addr} (a3 : PySem.W.nsIn K mainGlobals "first_clash" = some (some (.ref f3))) (l3 : K.lookup f3 = some ⟨oc3, od3, .func (PySem.W.fnOf "first_clash" "first_clash" (defArgs (topS 8)) (defBody (topS 8)) (defScope (topS 8)) .none kV3 dc3 pm3 an3 cd3 ct3), sl3⟩) (e3 : PySem.W.codeIn K cd3 "first_clash" = true) (k3 : PySem.W.keepIn K (.ref f3) = true)
    {od4 an4 : Option Addr} {sl4 : Array (Option Value)} {oc4 kV4 dc4 pm4 cd4 ct4 : Value} {f4 : Addr} (a4 : PySem.W.nsIn K mainGlobals "need_none" = some (some (.ref f4))) (l4 : K.lookup f4 = some ⟨oc4, od4, .func (PySem.W.fnOf "need_none" "need_none" (defArgs (topS 9)) (defBody (topS 9)) (defScope (topS 9)) .none kV4 dc4 pm4 an4 cd4 ct4), sl4⟩) (e4 : PySem.W.codeIn K cd4 "need_none" = true) (k4 : PySem.W.keepIn K (.ref f4) = true)
    {od5 an5 : Option Addr} {sl5 : Array (Option Value)} {oc5 kV5 dc5 pm5 cd5 ct5 : Value} {f5 : Addr} (a5 : PySem.W.nsIn K mainGlobals "told" = some (some (.ref f5))) (l5 : K.lookup f5 = some ⟨oc5, od5, .func (PySem.W.fnOf "told" "told" (defArgs (topS 10)) (defBody (topS 10)) (defScope (topS 10)) .none kV5 dc5 pm5 an5 cd5 ct5), sl5⟩) (e5 : PySem.W.codeIn K cd5 "told" = true) (k5 : PySem.W.keepIn K (.ref f5) = true)
    {od6 an6 : Option Addr} {sl6 : Array (Option Value)} {oc6 kV6 dc6 pm6 cd6 ct6 : Value} {f6 : Addr} (a6 : PySem.W.nsIn K mainGlobals "divisor" = some (some (.ref f6))) (l6 : K.lookup f6 = some ⟨oc6, od6, .func (PySem.W.fnOf "divisor" "divisor" (defArgs (topS 12)) (defBody (topS 12)) (defScope (topS 12)) .none kV6 dc6 pm6 an6 cd6 ct6), sl6⟩) (e6 : PySem.W.codeIn K cd6 "divisor" = true) (k6 : PySem.W.keepIn K (.ref f6) = true)
    {od7 an7 : Option Addr} {sl7 : Array (Option Value)} {oc7 kV7 dc7 pm7 cd7 ct7 : Value} {f7 : Addr} (a7 : PySem.W.nsIn K mainGlobals "told_both" = some (some (.ref f7))) (l7 : K.lookup f7 = some ⟨oc7, od7, .func (PySem.W.fnOf "told_both" "told_both" (defArgs (topS 13)) (defBody (topS 13)) (defScope (topS 13)) .none kV7 dc7 pm7 an7 cd7 ct7), sl7⟩) (e7 : PySem.W.codeIn K cd7 "told_both" = true) (k7 : PySem.W.keepIn K (.ref f7) = true)
    {od8 an8 : Option Addr} {sl8 : Array (Option Value)} {oc8 kV8 dc8 pm8 cd8 ct8 : Value} {f8 : Addr} (a8 : PySem.W.nsIn K mainGlobals "_law_draw" = some (some (.ref f8))) (l8 : K.lookup f8 = some ⟨oc8, od8, .func (PySem.W.fnOf "_law_draw" "_law_draw" (defArgs (topS 15)) (defBody (topS 15)) (defScope (topS 15)) .none kV8 dc8 pm8 an8 cd8 ct8), sl8⟩) (e8 : PySem.W.codeIn K cd8 "_law_draw" = true) (k8 : PySem.W.keepIn K (.ref f8) = true)
    {od9 an9 : Option Addr} {sl9 : Array (Option Value)} {oc9 kV9 dc9 pm9 cd9 ct9 : Value} {f9 : Addr} (a9 : PySem.W.nsIn K mainGlobals "_law_pick" = some (some (.ref f9))) (l9 : K.lookup f9 = some ⟨oc9, od9, .func (PySem.W.fnOf "_law_pick" "_law_pick" (defArgs (topS 16)) (defBody (topS 16)) (defScope (topS 16)) .none kV9 dc9 pm9 an9 cd9 ct9), sl9⟩) (e9 : PySem.W.codeIn K cd9 "_law_pick" = true) (k9 : PySem.W.keepIn K (.ref f9) = true)
    {od10 an10 : Option Addr} {sl10 : Array (Option Value)} {oc10 kV10 dc10 pm10 cd10 ct10 : Value} {f10 : Addr} (a10 : PySem.W.nsIn K mainGlobals "_law_facts" = some (some (.ref f10))) (l10 : K.lookup f10 = some ⟨oc10, od10, .func (PySem.W.fnOf "_law_facts" "_law_facts" (defArgs (topS 18)) (defBody (topS 18)) (defScope (topS 18)) .none kV10 dc10 pm10 an10 cd10 ct10), sl10⟩) (e10 : PySem.W.codeIn K cd10 "_law_facts" = true) (k10 : PySem.W.keepIn K (.ref f10) = true)
    {od11 an11 : Option Addr} {sl11 : Array (Option Value)} {oc11 kV11 dc11 pm11 cd11 ct11 : Value} {f11 : Addr} (a11 : PySem.W.nsIn K mainGlobals "_law_lied" = some (some (.ref f11))) (l11 : K.lookup f11 = some ⟨oc11, od11, .func (PySem.W.fnOf "_law_lied" "_law_lied" (defArgs (topS 20)) (defBody (topS 20)) (defScope (topS 20)) .none kV11 dc11 pm11 an11 cd11 ct11), sl11⟩) (e11 : PySem.W.codeIn K cd11 "_law_lied" = true) (k11 : PySem.W.keepIn K (.ref f11) = true)
    {od12 an12 : Option Addr} {sl12 : Array (Option Value)} {oc12 kV12 dc12 pm12 cd12 ct12 : Value} {f12 : Addr} (a12 : PySem.W.nsIn K mainGlobals "_law_stretches" = some (some (.ref f12))) (l12 : K.lookup f12 = some ⟨oc12, od12, .func (PySem.W.fnOf "_law_stretches" "_law_stretches" (defArgs (topS 21)) (defBody (topS 21)) (defScope (topS 21)) .none kV12 dc12 pm12 an12 cd12 ct12), sl12⟩) (e12 : PySem.W.codeIn K cd12 "_law_stretches" = true) (k12 : PySem.W.keepIn K (.ref f12) = true)
    {od13 an13 : Option Addr} {sl13 : Array (Option Value)} {oc13 kV13 dc13 pm13 cd13 ct13 : Value} {f13 : Addr} (a13 : PySem.W.nsIn K mainGlobals "_law_rest" = some (some (.ref f13))) (l13 : K.lookup f13 = some ⟨oc13, od13, .func (PySem.W.fnOf "_law_rest" "_law_rest" (defArgs (topS 22)) (defBody (topS 22)) (defScope (topS 22)) .none kV13 dc13 pm13 an13 cd13 ct13), sl13⟩) (e13 : PySem.W.codeIn K cd13 "_law_rest" = true) (k13 : PySem.W.keepIn K (.ref f13) = true)
    {od14 an14 : Option Addr} {sl14 : Array (Option Value)} {oc14 kV14 dc14 pm14 cd14 ct14 : Value} {f14 : Addr} (a14 : PySem.W.nsIn K mainGlobals "_law_divisor" = some (some (.ref f14))) (l14 : K.lookup f14 = some ⟨oc14, od14, .func (PySem.W.fnOf "_law_divisor" "_law_divisor" (defArgs (topS 23)) (defBody (topS 23)) (defScope (topS 23)) .none kV14 dc14 pm14 an14 cd14 ct14), sl14⟩) (e14 : PySem.W.codeIn K cd14 "_law_divisor" = true) (k14 : PySem.W.keepIn K (.ref f14) = true)
    {od15 an15 : Option Addr} {sl15 : Array (Option Value)} {oc15 kV15 dc15 pm15 cd15 ct15 : Value} {f15 : Addr} (a15 : PySem.W.nsIn K mainGlobals "_law_both" = some (some (.ref f15))) (l15 : K.lookup f15 = some ⟨oc15, od15, .func (PySem.W.fnOf "_law_both" "_law_both" (defArgs (topS 24)) (defBody (topS 24)) (defScope (topS 24)) .none kV15 dc15 pm15 an15 cd15 ct15), sl15⟩) (e15 : PySem.W.codeIn K cd15 "_law_both" = true) (k15 : PySem.W.keepIn K (.ref f15) = true)
    {od16 an16 : Option Addr} {sl16 : Array (Option Value)} {oc16 kV16 dc16 pm16 cd16 ct16 : Value} {f16 : Addr} (a16 : PySem.W.nsIn K mainGlobals "_law_true_hold" = some (some (.ref f16))) (l16 : K.lookup f16 = some ⟨oc16, od16, .func (PySem.W.fnOf "_law_true_hold" "_law_true_hold" (defArgs (topS 25)) (defBody (topS 25)) (defScope (topS 25)) .none kV16 dc16 pm16 an16 cd16 ct16), sl16⟩) (e16 : PySem.W.codeIn K cd16 "_law_true_hold" = true) (k16 : PySem.W.keepIn K (.ref f16) = true)
    {od17 an17 : Option Addr} {sl17 : Array (Option Value)} {oc17 kV17 dc17 pm17 cd17 ct17 : Value} {f17 : Addr} (a17 : PySem.W.nsIn K mainGlobals "law" = some (some (.ref f17))) (l17 : K.lookup f17 = some ⟨oc17, od17, .func (PySem.W.fnOf "law" "law" (defArgs (topS 26)) (defBody (topS 26)) (defScope (topS 26)) .none kV17 dc17 pm17 an17 cd17 ct17), sl17⟩) (e17 : PySem.W.codeIn K cd17 "law" = true) (k17 : PySem.W.keepIn K (.ref f17) = true)
    (z_enumerate : PySem.W.nsIn K mainGlobals "enumerate" = some none)
    (z_len : PySem.W.nsIn K mainGlobals "len" = some none)
    (z_sorted : PySem.W.nsIn K mainGlobals "sorted" = some none)
    (z_range : PySem.W.nsIn K mainGlobals "range" = some none)
    (z_min : PySem.W.nsIn K mainGlobals "min" = some none)
    (z_sum : PySem.W.nsIn K mainGlobals "sum" = some none)
    (z_tuple : PySem.W.nsIn K mainGlobals "tuple" = some none)
    {C_Clash : Addr} (ax_Clash : PySem.W.nsIn K mainGlobals "Clash" = some (some (.ref C_Clash))) (qx_Clash : PySem.W.excIn K C_Clash veB "ValueError.__new__" = true) (kx_Clash : PySem.W.keepIn K (.ref C_Clash) = true) (sx_Clash : PySem.W.subIn K (.ref C_Clash) (.type "BaseException") = some true) (tx_Clash : PySem.W.typeIn K (.ref C_Clash) = some (.type "type"))
    {C_NoRest : Addr} (ax_NoRest : PySem.W.nsIn K mainGlobals "NoRest" = some (some (.ref C_NoRest))) (qx_NoRest : PySem.W.excIn K C_NoRest veB "ValueError.__new__" = true) (kx_NoRest : PySem.W.keepIn K (.ref C_NoRest) = true) (sx_NoRest : PySem.W.subIn K (.ref C_NoRest) (.type "BaseException") = some true) (tx_NoRest : PySem.W.typeIn K (.ref C_NoRest) = some (.type "type"))
    (mx_NoRest_Clash : PySem.W.exmOne K (.ref C_NoRest) (.ref C_Clash) = some false)
    (mx_Clash_Clash : PySem.W.exmOne K (.ref C_Clash) (.ref C_Clash) = some true)
    (mx_NoRest_NoRest : PySem.W.exmOne K (.ref C_NoRest) (.ref C_NoRest) = some true)
    (mx_Clash_NoRest : PySem.W.exmOne K (.ref C_Clash) (.ref C_NoRest) = some false) :
    ∃ fd : FuncData, (∀ (s : Shared) (v : Value), BindsTo s fd ⟨[v], []⟩ [("script", v)]) ∧ ∀ base : Heap, K.In base → base.Ns mainGlobals mg → FnOk l.prog w K mg base (L2.CX l.prog w) 9 fa fd ["script"] (sp0 K (f_law_k38 f_l_draw_2) 1) := by
  have e := hfa.symm.trans (PySem.W.mg_of X G a17)
  cases e
  have x_Clash : Xc K mg "Clash" := ⟨C_Clash, PySem.W.mg_of X G ax_Clash, qx_Clash, kx_Clash, sx_Clash, tx_Clash⟩
  have x_NoRest : Xc K mg "NoRest" := ⟨C_NoRest, PySem.W.mg_of X G ax_NoRest, qx_NoRest, kx_NoRest, sx_NoRest, tx_NoRest⟩
  have xm_NoRest_Clash : Xm K mg "NoRest" "Clash" := fun C D h1 h2 => by
    have e1 := h1.symm.trans (PySem.W.mg_of X G ax_NoRest)
    have e2 := h2.symm.trans (PySem.W.mg_of X G ax_Clash)
    cases e1; cases e2; exact mx_NoRest_Clash
  have xm_Clash_Clash : Xm K mg "Clash" "Clash" := fun C D h1 h2 => by
    have e1 := h1.symm.trans (PySem.W.mg_of X G ax_Clash)
    have e2 := h2.symm.trans (PySem.W.mg_of X G ax_Clash)
    cases e1; cases e2; exact mx_Clash_Clash
  have xm_NoRest_NoRest : Xm K mg "NoRest" "NoRest" := fun C D h1 h2 => by
    have e1 := h1.symm.trans (PySem.W.mg_of X G ax_NoRest)
    have e2 := h2.symm.trans (PySem.W.mg_of X G ax_NoRest)
    cases e1; cases e2; exact mx_NoRest_NoRest
  have xm_Clash_NoRest : Xm K mg "Clash" "NoRest" := fun C D h1 h2 => by
    have e1 := h1.symm.trans (PySem.W.mg_of X G ax_Clash)
    have e2 := h2.symm.trans (PySem.W.mg_of X G ax_NoRest)
    cases e1; cases e2; exact mx_Clash_NoRest
  have h_enumerate := PySem.W.mg_none_of X G z_enumerate
  have h_len := PySem.W.mg_none_of X G z_len
  have h_sorted := PySem.W.mg_none_of X G z_sorted
  have h_range := PySem.W.mg_none_of X G z_range
  have h_min := PySem.W.mg_none_of X G z_min
  have h_sum := PySem.W.mg_none_of X G z_sum
  have h_tuple := PySem.W.mg_none_of X G z_tuple
  have F0 := fun_mk (st := topS 5) l0 e0 k0
  have b0 := F0.binds (ps := ["sheet", "mark"]) fun _ _ _ _ _ _ us hl => match us, hl with | [_, _], _ => rfl
  have F1 := fun_mk (st := topS 6) l1 e1 k1
  have b1 := F1.binds (ps := ["sheet", "one", "other"]) fun _ _ _ _ _ _ us hl => match us, hl with | [_, _, _], _ => rfl
  have F2 := fun_mk (st := topS 7) l2 e2 k2
  have b2 := F2.binds (ps := ["sheet", "mark", "steps"]) fun _ _ _ _ _ _ us hl => match us, hl with | [_, _, _], _ => rfl
  have F3 := fun_mk (st := topS 8) l3 e3 k3
  have b3 := F3.binds (ps := ["sheet"]) fun _ _ _ _ _ _ us hl => match us, hl with | [_], _ => rfl
  have F4 := fun_mk (st := topS 9) l4 e4 k4
  have b4 := F4.binds (ps := ["sheet"]) fun _ _ _ _ _ _ us hl => match us, hl with | [_], _ => rfl
  have F5 := fun_mk (st := topS 10) l5 e5 k5
  have b5 := F5.binds (ps := ["sheet", "first", "last"]) fun _ _ _ _ _ _ us hl => match us, hl with | [_, _, _], _ => rfl
  have F6 := fun_mk (st := topS 12) l6 e6 k6
  have b6 := F6.binds (ps := ["one", "other"]) fun _ _ _ _ _ _ us hl => match us, hl with | [_, _], _ => rfl
  have F7 := fun_mk (st := topS 13) l7 e7 k7
  have b7 := F7.binds (ps := ["one", "other", "first", "last"]) fun _ _ _ _ _ _ us hl => match us, hl with | [_, _, _, _], _ => rfl
  have F8 := fun_mk (st := topS 15) l8 e8 k8
  have b8 := F8.binds (ps := ["script", "town", "many"]) fun _ _ _ _ _ _ us hl => match us, hl with | [_, _, _], _ => rfl
  have F9 := fun_mk (st := topS 16) l9 e9 k9
  have b9 := F9.binds (ps := ["script", "town", "some"]) fun _ _ _ _ _ _ us hl => match us, hl with | [_, _, _], _ => rfl
  have F10 := fun_mk (st := topS 18) l10 e10 k10
  have b10 := F10.binds (ps := ["script", "town", "row", "by", "most"]) fun _ _ _ _ _ _ us hl => match us, hl with | [_, _, _, _, _], _ => rfl
  have F11 := fun_mk (st := topS 20) l11 e11 k11
  have b11 := F11.binds (ps := ["script", "town", "sheet"]) fun _ _ _ _ _ _ us hl => match us, hl with | [_, _, _], _ => rfl
  have F12 := fun_mk (st := topS 21) l12 e12 k12
  have b12 := F12.binds (ps := ["long"]) fun _ _ _ _ _ _ us hl => match us, hl with | [_], _ => rfl
  have F13 := fun_mk (st := topS 22) l13 e13 k13
  have b13 := F13.binds (ps := ["number", "by"]) fun _ _ _ _ _ _ us hl => match us, hl with | [_, _], _ => rfl
  have F14 := fun_mk (st := topS 23) l14 e14 k14
  have b14 := F14.binds (ps := ["one", "other"]) fun _ _ _ _ _ _ us hl => match us, hl with | [_, _], _ => rfl
  have F15 := fun_mk (st := topS 24) l15 e15 k15
  have b15 := F15.binds (ps := ["one", "other", "first", "last"]) fun _ _ _ _ _ _ us hl => match us, hl with | [_, _, _, _], _ => rfl
  have F16 := fun_mk (st := topS 25) l16 e16 k16
  have b16 := F16.binds (ps := ["one", "other", "great"]) fun _ _ _ _ _ _ us hl => match us, hl with | [_, _, _], _ => rfl
  have F17 := fun_mk (st := topS 26) l17 e17 k17
  have b17 := F17.binds (ps := ["script"]) fun _ _ _ _ _ _ us hl => match us, hl with | [_], _ => rfl
  refine ⟨PySem.W.fnOf "law" "law" (defArgs (topS 26)) (defBody (topS 26)) (defScope (topS 26)) .none kV17 dc17 pm17 an17 cd17 ct17, fun s v => .of_eq rfl, fun base _ _ => ?_⟩
  have c_steps_from : Cal l.prog w K mg base 1 "steps_from" 2 f_steps_from := ⟨f0, _, _, ok_steps_from F0 h_enumerate, PySem.W.mg_of X G a0, k0, b0⟩
  have c_way : Cal l.prog w K mg base 2 "way" 3 f_way := ⟨f1, _, _, ok_way F1 h_len h_sorted (c_steps_from.mono (by decide)), PySem.W.mg_of X G a1, k1, b1⟩
  have c_led : Cal l.prog w K mg base 1 "led" 3 f_led := ⟨f2, _, _, ok_led F2 , PySem.W.mg_of X G a2, k2, b2⟩
  have c_first_clash : Cal l.prog w K mg base 3 "first_clash" 1 f_first_clash := ⟨f3, _, _, ok_first_clash F3 h_enumerate (c_way.mono (by decide)) (c_led.mono (by decide)), PySem.W.mg_of X G a3, k3, b3⟩
  have c_need_none : Cal l.prog w K mg base 4 "need_none" 1 f_need_none := ⟨f4, _, _, ok_need_none F4 x_Clash (c_first_clash.mono (by decide)), PySem.W.mg_of X G a4, k4, b4⟩
  have c_told : Cal l.prog w K mg base 5 "told" 3 f_told := ⟨f5, _, _, ok_told F5 (c_need_none.mono (by decide)) (c_way.mono (by decide)) (c_led.mono (by decide)), PySem.W.mg_of X G a5, k5, b5⟩
  have c_divisor : Cal l.prog w K mg base 1 "divisor" 2 f_divisor := ⟨f6, _, _, ok_divisor F6 , PySem.W.mg_of X G a6, k6, b6⟩
  have c_told_both : Cal l.prog w K mg base 6 "told_both" 4 f_told_both := ⟨f7, _, _, ok_told_both F7 x_NoRest (c_divisor.mono (by decide)) (c_told.mono (by decide)), PySem.W.mg_of X G a7, k7, b7⟩
  have c_l_draw_2 : Cal l.prog w K mg base 1 "_law_draw" 3 f_l_draw_2 := ⟨f8, _, _, ok_l_draw_2 F8 h_len, PySem.W.mg_of X G a8, k8, b8⟩
  have c_l_pick : Cal l.prog w K mg base 2 "_law_pick" 3 (f_l_pick f_l_draw_2) := ⟨f9, _, _, ok_l_pick F9 h_len (c_l_draw_2.mono (by decide)), PySem.W.mg_of X G a9, k9, b9⟩
  have c_l_facts_2 : Cal l.prog w K mg base 3 "_law_facts" 5 (f_l_facts_2 f_l_draw_2) := ⟨f10, _, _, ok_l_facts_2 F10 h_range h_len h_min h_sum (c_l_draw_2.mono (by decide)) (c_l_pick.mono (by decide)), PySem.W.mg_of X G a10, k10, b10⟩
  have c_l_lied : Cal l.prog w K mg base 2 "_law_lied" 3 (f_l_lied f_l_draw_2) := ⟨f11, _, _, ok_l_lied F11 h_len (c_l_draw_2.mono (by decide)), PySem.W.mg_of X G a11, k11, b11⟩
  have c_l_stretches : Cal l.prog w K mg base 1 "_law_stretches" 1 f_l_stretches := ⟨f12, _, _, ok_l_stretches F12 h_range, PySem.W.mg_of X G a12, k12, b12⟩
  have c_l_rest : Cal l.prog w K mg base 1 "_law_rest" 2 f_l_rest := ⟨f13, _, _, ok_l_rest F13 , PySem.W.mg_of X G a13, k13, b13⟩
  have c_l_divisor : Cal l.prog w K mg base 2 "_law_divisor" 2 f_l_divisor := ⟨f14, _, _, ok_l_divisor F14 (c_l_rest.mono (by decide)), PySem.W.mg_of X G a14, k14, b14⟩
  have c_l_both : Cal l.prog w K mg base 7 "_law_both" 4 f_l_both := ⟨f15, _, _, ok_l_both F15 x_Clash xm_NoRest_Clash xm_Clash_Clash x_NoRest xm_NoRest_NoRest xm_Clash_NoRest (c_told_both.mono (by decide)), PySem.W.mg_of X G a15, k15, b15⟩
  have c_l_true_hold : Cal l.prog w K mg base 8 "_law_true_hold" 3 f_l_true_hold := ⟨f16, _, _, ok_l_true_hold F16 h_sum (c_l_stretches.mono (by decide)) (c_told.mono (by decide)) (c_l_both.mono (by decide)) (c_l_rest.mono (by decide)), PySem.W.mg_of X G a16, k16, b16⟩
  exact law_mk (ok_law_k38 F17 h_range h_tuple (c_l_draw_2.mono (by decide)) (c_l_facts_2.mono (by decide)) (c_l_rest.mono (by decide)) (c_l_lied.mono (by decide)) (c_l_divisor.mono (by decide)) (c_l_both.mono (by decide)) (c_l_true_hold.mono (by decide)) (c_first_clash.mono (by decide)))
end Z.D
open PySem PySem.W PyProof.Rows
set_option maxHeartbeats 0 in
theorem PySem.Challenge.cw_stretchrests_k38_whole_two_numbers_toget_holds : PySem.Challenge.rw_stretchrests_k38_whole_two_numbers_toget.Holds := by
  w_on; o_law; k_head; (case hw => w_witness2)
  k_fill
  refine L2.walk_of (l := PySem.Challenge.rw_stretchrests_k38_whole_two_numbers_toget) (n := 63) (k := 9) (x := "script") (CX := fun w => L2.CX PySem.Challenge.rw_stretchrests_k38_whole_two_numbers_toget.prog w) (sp := fun w => Z.sp0 _ (Z.f_law_k38 Z.f_l_draw_2) 1) rfl (by decide) rfl ⟨rfl, by decide, by decide⟩ (fun w h Y => PySem.W.kIn_of Y) ?F (fun w H a ns hl hO hS => Z.law_sp hO hS (Z.pure_law_k38 ns hl)) (fun _ _ _ _ _ h => Z.no_exc h)
  case F =>
    intro w mg fa h KX G hmg
    refine' Z.D.all_mk KX G hmg ?a0 ?l0 ?e0 ?k0 ?a1 ?l1 ?e1 ?k1 ?a2 ?l2 ?e2 ?k2 ?a3 ?l3 ?e3 ?k3 ?a4 ?l4 ?e4 ?k4 ?a5 ?l5 ?e5 ?k5 ?a6 ?l6 ?e6 ?k6 ?a7 ?l7 ?e7 ?k7 ?a8 ?l8 ?e8 ?k8 ?a9 ?l9 ?e9 ?k9 ?a10 ?l10 ?e10 ?k10 ?a11 ?l11 ?e11 ?k11 ?a12 ?l12 ?e12 ?k12 ?a13 ?l13 ?e13 ?k13 ?a14 ?l14 ?e14 ?k14 ?a15 ?l15 ?e15 ?k15 ?a16 ?l16 ?e16 ?k16 ?a17 ?l17 ?e17 ?k17 ?z_enumerate ?z_len ?z_sorted ?z_range ?z_min ?z_sum ?z_tuple ?ax_Clash ?qx_Clash ?kx_Clash ?sx_Clash ?tx_Clash ?ax_NoRest ?qx_NoRest ?kx_NoRest ?sx_NoRest ?tx_NoRest ?mx_NoRest_Clash ?mx_Clash_Clash ?mx_NoRest_NoRest ?mx_Clash_NoRest
    (case a0 => k_is)
    (case l0 => k_is)
    (case e0 => k_is)
    (case k0 => k_is)
    (case a1 => k_is)
    (case l1 => k_is)
    (case e1 => k_is)
    (case k1 => k_is)
    (case a2 => k_is)
    (case l2 => k_is)
    (case e2 => k_is)
    (case k2 => k_is)
    (case a3 => k_is)
    (case l3 => k_is)
    (case e3 => k_is)
    (case k3 => k_is)
    (case a4 => k_is)
    (case l4 => k_is)
    (case e4 => k_is)
    (case k4 => k_is)
    (case a5 => k_is)
    (case l5 => k_is)
    (case e5 => k_is)
    (case k5 => k_is)
    (case a6 => k_is)
    (case l6 => k_is)
    (case e6 => k_is)
    (case k6 => k_is)
    (case a7 => k_is)
    (case l7 => k_is)
    (case e7 => k_is)
    (case k7 => k_is)
    (case a8 => k_is)
    (case l8 => k_is)
    (case e8 => k_is)
    (case k8 => k_is)
    (case a9 => k_is)
    (case l9 => k_is)
    (case e9 => k_is)
    (case k9 => k_is)
    (case a10 => k_is)
    (case l10 => k_is)
    (case e10 => k_is)
    (case k10 => k_is)
    (case a11 => k_is)
    (case l11 => k_is)
    (case e11 => k_is)
    (case k11 => k_is)
    (case a12 => k_is)
    (case l12 => k_is)
    (case e12 => k_is)
    (case k12 => k_is)
    (case a13 => k_is)
    (case l13 => k_is)
    (case e13 => k_is)
    (case k13 => k_is)
    (case a14 => k_is)
    (case l14 => k_is)
    (case e14 => k_is)
    (case k14 => k_is)
    (case a15 => k_is)
    (case l15 => k_is)
    (case e15 => k_is)
    (case k15 => k_is)
    (case a16 => k_is)
    (case l16 => k_is)
    (case e16 => k_is)
    (case k16 => k_is)
    (case a17 => k_is)
    (case l17 => k_is)
    (case e17 => k_is)
    (case k17 => k_is)
    (case z_enumerate => k_is)
    (case z_len => k_is)
    (case z_sorted => k_is)
    (case z_range => k_is)
    (case z_min => k_is)
    (case z_sum => k_is)
    (case z_tuple => k_is)
    (case ax_Clash => k_is)
    (case qx_Clash => kernel_rfl)
    (case kx_Clash => k_is)
    (case sx_Clash => k_is)
    (case tx_Clash => k_is)
    (case ax_NoRest => k_is)
    (case qx_NoRest => kernel_rfl)
    (case kx_NoRest => k_is)
    (case sx_NoRest => k_is)
    (case tx_NoRest => k_is)
    (case mx_NoRest_Clash => kernel_rfl)
    (case mx_Clash_Clash => kernel_rfl)
    (case mx_NoRest_NoRest => kernel_rfl)
    (case mx_Clash_NoRest => kernel_rfl)

