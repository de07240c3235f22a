import PyProof.Rows.All
import Wide.All
import OpenK.AllK
import Wide.FinOn
import HandS.ForMost
import HandS.ForExc
import HandS.Flow
import HandS.IsInst
import HandS.CallSlots
import HandS.Walk
import HandS.Style
import HandS.Deep
import HandS.TupAny
import HandS.TupLe
import HandS.NoneIn
import HandS.Wide
import HandS.Defaults
import HandS.Zip
import KE.GoesEnum
import KE.KExcSuper
import HandS.ExcInit
import HandS.ExcField
import HandS.ExcIs
import HandS.TryOnly
import HandS.Head0
import HandS.Head1
import HandS.Head2
import HandS.HeadEnd
import HandS.HeadHook1
import HandS.HeadHook2
import HandS.Ends
import HandS.TupSets
import HandS.TupMul
import HandS.SetKeys
import HandS.SortInts
import HandS.SetFor
import HandS.Strs
import PySem.Challenge.RW_wholestrokes_k01_whole_things_and_what_t
set_option Elab.async false
set_option linter.all false
set_option maxRecDepth 100000
set_option maxHeartbeats 0
/-! Z: values as plain data, a store of what changes, and the heap that bears both. -/
namespace Z
open PySem L2

/-- a value: tuples and lists that nobody changes by what is in them; what is changed by its number in the store -/
inductive D where
  | non | bl (b : Bool) | int (i : Int) | str (s : Str) | tup (ds : List D) | lst (ds : List D) | scr (ds : List D) | ref (n : Nat) | adr (a : Addr) | ty (n : String)
/-- what may change -/
inductive O where
  | lst (ds : List D) | ins (c : Addr) (fs : List (Str × D)) | dct (kvs : List (Key × D)) | dcT (kvs : List (List Key × D)) | iset (p : Int → Bool) (n : Nat)
abbrev Sto := List O
/-- what comes of an expression: a value, an error of an own class with its one value, nothing that is known -/
inductive R (α : Type) where
  | ok (a : α) (S : Sto) | exc (c : Addr) (d : D) (S : Sto) | bad
def R.bind {α β : Type} (r : R α) (f : α → Sto → R β) : R β := match r with
  | .ok a S => f a S
  | .exc c d S => .exc c d S
  | .bad => .bad
@[simp] theorem R.bind_ok {α β : Type} (a : α) (S : Sto) (f : α → Sto → R β) : (R.ok a S).bind f = f a S := rfl
@[simp] theorem R.bind_exc {α β : Type} (c : Addr) (d : D) (S : Sto) (f : α → Sto → R β) : (R.exc c d S : R α).bind f = .exc c d S := rfl
@[simp] theorem R.bind_bad {α β : Type} (f : α → Sto → R β) : (R.bad : R α).bind f = .bad := rfl

abbrev Env := List (Option D)
abbrev DE := Env → Sto → R D
abbrev DA := Env → Sto → R (List D)
abbrev DT := Env → Sto → R Bool

/-! ### the relation -/
section
variable (K : PySem.W.Frag) (m B : List Addr) (H : Hp)
def KT (a : Addr) (xs : List V) : Prop :=
  ∃ (o : Obj) (its : Array Value) (n : Nat), K.lookup a = some o ∧ o.cls = .type "tuple" ∧ o.data = .seq its n ∧ its.size ≤ sizeLine ∧ Vals xs its.toList
def KL (a : Addr) (xs : List V) : Prop :=
  ∃ (o : Obj) (its : Array Value) (n : Nat), K.lookup a = some o ∧ o.cls = .type "list" ∧ o.dict = none ∧ o.data = .seq its n ∧ its.size ≤ sizeLine ∧ Vals xs its.toList
def FT (a : Addr) (xs : List V) : Prop := (a ∉ m ∧ a ∉ B ∧ Rd H a (.tup xs)) ∨ KT K a xs
def FN (m B : List Addr) (H : Hp) (a : Addr) (xs : List V) : Prop := a ∉ m ∧ a ∉ B ∧ H a = some (.lst xs)
def FL (a : Addr) (xs : List V) : Prop := (a ∉ m ∧ a ∉ B ∧ Rd H a (.lst xs)) ∨ KL K a xs
mutual
def RD : D → V → Prop
  | .non, v => v = .non
  | .bl b, v => v = .bl b
  | .int i, v => v = .int i
  | .str s, v => v = .str s
  | .tup ds, v => ∃ a vs, v = .ref a ∧ FT K m B H a vs ∧ RDs ds vs
  | .lst ds, v => ∃ a vs, v = .ref a ∧ FN m B H a vs ∧ RDs ds vs
  | .scr ds, v => ∃ a vs, v = .ref a ∧ FL K m B H a vs ∧ RDs ds vs
  | .ref n, v => ∃ a, v = .ref a ∧ m[n]? = some a
  | .adr a, v => v = .ref a
  | .ty n, v => v = .ty n
def RDs : List D → List V → Prop
  | [], vs => vs = []
  | d :: ds, vs => ∃ x r, vs = x :: r ∧ RD d x ∧ RDs ds r
end
def RFs {κ : Type} : List (κ × D) → List (κ × V) → Prop
  | [], vs => vs = []
  | p :: fs, vs => ∃ x r, vs = (p.1, x) :: r ∧ RD K m B H p.2 x ∧ RFs fs r
def REs : Env → L2.St → Prop
  | [], σ => σ = []
  | o :: ρ, σ => ∃ x r, σ = x :: r ∧ (∀ d, o = some d → ∃ v, x = some v ∧ RD K m B H d v) ∧ REs ρ r
def RO (a : Addr) : O → Prop
  | .lst ds => ∃ vs, H a = some (.lst vs) ∧ RDs K m B H ds vs
  | .ins C fs => ∃ dx vs, H a = some (.ins C dx vs) ∧ RFs K m B H fs vs
  | .dct kvs => ∃ vs, H a = some (.dK vs) ∧ RFs K m B H kvs vs
  | .dcT kvs => ∃ vs, H a = some (.dT vs) ∧ RFs K m B H kvs vs
  | .iset p n => H a = some (.set p n)
structure RS (S : Sto) : Prop where
  len : m.length = S.length
  nd : m.Nodup
  dis : ∀ a ∈ m, a ∉ B
  bn : ∀ b ∈ B, ∃ u, H b = some u
  ob : ∀ (n : Nat) (a : Addr) (o : O), m[n]? = some a → S[n]? = some o → RO K m B H a o
end
/-- what is not in the store stands as it stood; the store may grow by what is new -/
structure Ge (m : List Addr) (H : Hp) (m' : List Addr) (H' : Hp) : Prop where
  pre : ∃ l, m' = m ++ l
  keep : ∀ b o, b ∉ m → H b = some o → b ∉ m' ∧ H' b = some o
theorem Ge.refl (m : List Addr) (H : Hp) : Ge m H m H := ⟨⟨[], by simp⟩, fun _ _ h e => ⟨h, e⟩⟩
theorem Ge.trans {m m1 m2 : List Addr} {H H1 H2 : Hp} (a : Ge m H m1 H1) (b : Ge m1 H1 m2 H2) : Ge m H m2 H2 := by
  obtain ⟨⟨l, e⟩, k⟩ := a
  obtain ⟨⟨l', e'⟩, k'⟩ := b
  refine ⟨⟨l ++ l', by rw [e', e, List.append_assoc]⟩, fun c o h q => ?_⟩
  obtain ⟨h1, q1⟩ := k c o h q
  exact k' c o h1 q1
/-- what is borne here is borne there -/
structure Tr (m B : List Addr) (H : Hp) (m' B' : List Addr) (H' : Hp) : Prop where
  at_ : ∀ (n : Nat) (a : Addr), m[n]? = some a → m'[n]? = some a
  rd : ∀ (a : Addr) (u : HO), a ∉ m → a ∉ B → H a = some u → a ∉ m' ∧ a ∉ B' ∧ H' a = some u
theorem Ge.tr {m m' B : List Addr} {H H' : Hp} (g : Ge m H m' H') : Tr m B H m' B H' := by
  refine ⟨fun n a h => ?_, fun a u h1 h2 h3 => ⟨(g.keep a u h1 h3).1, h2, (g.keep a u h1 h3).2⟩⟩
  obtain ⟨⟨l, rfl⟩, _⟩ := g
  rw [List.getElem?_append_left (List.getElem?_eq_some_iff.mp h).1]
  exact h
section
variable {K : PySem.W.Frag} {m m' B B' : List Addr} {H H' : Hp}
theorem Tr.rds {a : Addr} {u : HO} (g : Tr m B H m' B' H') (hn : a ∉ m) (hb : a ∉ B) (r : Rd H a u) : a ∉ m' ∧ a ∉ B' ∧ Rd H' a u := by
  rcases r with r | ⟨o, r⟩
  · have q := g.rd a _ hn hb r
    exact ⟨q.1, q.2.1, .inl q.2.2⟩
  · have q := g.rd a _ hn hb r
    exact ⟨q.1, q.2.1, .inr ⟨o, q.2.2⟩⟩
theorem FT.mono {a : Addr} {xs : List V} (g : Tr m B H m' B' H') (h : FT K m B H a xs) : FT K m' B' H' a xs := h.elim (fun q => .inl (g.rds q.1 q.2.1 q.2.2)) .inr
theorem FL.mono {a : Addr} {xs : List V} (g : Tr m B H m' B' H') (h : FL K m B H a xs) : FL K m' B' H' a xs := h.elim (fun q => .inl (g.rds q.1 q.2.1 q.2.2)) .inr
theorem FN.mono {a : Addr} {xs : List V} (g : Tr m B H m' B' H') (h : FN m B H a xs) : FN m' B' H' a xs := g.rd a _ h.1 h.2.1 h.2.2
theorem FN.fl {a : Addr} {xs : List V} (h : FN m B H a xs) : FL K m B H a xs := .inl ⟨h.1, h.2.1, .inl h.2.2⟩
theorem FT.sq {a : Addr} {xs : List V} (h : FT K m B H a xs) : SqT K H a xs := h.elim (fun q => .inl q.2.2) .inr
theorem FL.sq {a : Addr} {xs : List V} (h : FL K m B H a xs) : SqL K H a xs := h.elim (fun q => .inl q.2.2) .inr
theorem FN.sq {a : Addr} {xs : List V} (h : FN m B H a xs) : SqL K H a xs := .inl (.inl h.2.2)
mutual
theorem RD.mono (g : Tr m B H m' B' H') : ∀ (d : D) (v : V), RD K m B H d v → RD K m' B' H' d v
  | .non, _, h | .bl _, _, h | .int _, _, h | .str _, _, h | .adr _, _, h | .ty _, _, h => by
    unfold RD at h ⊢
    exact h
  | .tup ds, v, h => by
    unfold RD at h ⊢
    obtain ⟨a, vs, e, f, r⟩ := h
    exact ⟨a, vs, e, f.mono g, RDs.mono g ds vs r⟩
  | .lst ds, v, h => by
    unfold RD at h ⊢
    obtain ⟨a, vs, e, f, r⟩ := h
    exact ⟨a, vs, e, f.mono g, RDs.mono g ds vs r⟩
  | .scr ds, v, h => by
    unfold RD at h ⊢
    obtain ⟨a, vs, e, f, r⟩ := h
    exact ⟨a, vs, e, f.mono g, RDs.mono g ds vs r⟩
  | .ref n, v, h => by
    unfold RD at h ⊢
    obtain ⟨a, e, q⟩ := h
    exact ⟨a, e, g.at_ n a q⟩
theorem RDs.mono (g : Tr m B H m' B' H') : ∀ (ds : List D) (vs : List V), RDs K m B H ds vs → RDs K m' B' H' ds vs
  | [], _, h => by
    unfold RDs at h ⊢
    exact h
  | d :: ds, vs, h => by
    unfold RDs at h ⊢
    obtain ⟨x, r, e, h1, h2⟩ := h
    exact ⟨x, r, e, RD.mono g d x h1, RDs.mono g ds r h2⟩
end
theorem RFs.mono {κ : Type} (g : Tr m B H m' B' H') : ∀ (fs : List (κ × D)) (vs : List (κ × V)), RFs K m B H fs vs → RFs K m' B' H' fs vs
  | [], _, h => h
  | p :: fs, vs, ⟨x, r, e, h1, h2⟩ => ⟨x, r, e, RD.mono g _ _ h1, RFs.mono g fs r h2⟩
theorem REs.mono (g : Tr m B H m' B' H') : ∀ (ρ : Env) (σ : L2.St), REs K m B H ρ σ → REs K m' B' H' ρ σ
  | [], _, h => h
  | o :: ρ, σ, ⟨x, r, e, h1, h2⟩ => ⟨x, r, e, fun d q => let ⟨v, e, z⟩ := h1 d q; ⟨v, e, RD.mono g d v z⟩, REs.mono g ρ r h2⟩
theorem RDs.len : ∀ {ds : List D} {vs : List V}, RDs K m B H ds vs → ds.length = vs.length
  | [], _, h => by unfold RDs at h; rw [h]; rfl
  | d :: ds, vs, h => by
    unfold RDs at h
    obtain ⟨x, r, rfl, _, h2⟩ := h
    simp [RDs.len h2]
theorem RDs.get : ∀ {ds : List D} {vs : List V} {i : Nat} {d : D}, RDs K m B H ds vs → ds[i]? = some d → ∃ v, vs[i]? = some v ∧ RD K m B H d v
  | [], _, _, _, _, e => by simp at e
  | d :: ds, vs, 0, _, h, e => by
    unfold RDs at h
    obtain ⟨x, r, rfl, h1, _⟩ := h
    simp at e
    subst e
    exact ⟨x, rfl, h1⟩
  | d :: ds, vs, i + 1, _, h, e => by
    unfold RDs at h
    obtain ⟨x, r, rfl, _, h2⟩ := h
    simp at e
    exact RDs.get (i := i) h2 e
theorem RDs.nil : RDs K m B H [] [] := by unfold RDs; rfl
theorem RDs.cons {d : D} {v : V} {ds : List D} {vs : List V} (h : RD K m B H d v) (t : RDs K m B H ds vs) : RDs K m B H (d :: ds) (v :: vs) := by
  unfold RDs
  exact ⟨v, vs, rfl, h, t⟩
theorem RDs.app : ∀ {ds ds' : List D} {vs vs' : List V}, RDs K m B H ds vs → RDs K m B H ds' vs' → RDs K m B H (ds ++ ds') (vs ++ vs')
  | [], _, _, _, h, t => by unfold RDs at h; rw [h]; exact t
  | d :: ds, _, _, _, h, t => by
    unfold RDs at h
    obtain ⟨x, r, rfl, h1, h2⟩ := h
    exact RDs.cons h1 (RDs.app h2 t)
theorem RDs.set : ∀ {ds : List D} {vs : List V} {d : D} {v : V} (i : Nat), RDs K m B H ds vs → RD K m B H d v → RDs K m B H (ds.set i d) (vs.set i v)
  | [], _, _, _, _, h, _ => by unfold RDs at h; rw [h]; exact RDs.nil
  | d :: ds, vs, _, _, 0, h, t => by
    unfold RDs at h
    obtain ⟨x, r, rfl, _, h2⟩ := h
    exact RDs.cons t h2
  | d :: ds, vs, _, _, i + 1, h, t => by
    unfold RDs at h
    obtain ⟨x, r, rfl, h1, h2⟩ := h
    exact RDs.cons h1 (RDs.set i h2 t)
theorem RDs.drop : ∀ {ds : List D} {vs : List V} (i : Nat), RDs K m B H ds vs → RDs K m B H (ds.drop i) (vs.drop i)
  | _, _, 0, h => h
  | [], _, i + 1, h => by unfold RDs at h; rw [h]; exact RDs.nil
  | d :: ds, vs, i + 1, h => by
    unfold RDs at h
    obtain ⟨x, r, rfl, _, h2⟩ := h
    exact RDs.drop i h2
theorem RDs.take : ∀ {ds : List D} {vs : List V} (i : Nat), RDs K m B H ds vs → RDs K m B H (ds.take i) (vs.take i)
  | _, _, 0, h => by simp [RDs.nil]
  | [], _, i + 1, h => by unfold RDs at h; rw [h]; exact RDs.nil
  | d :: ds, vs, i + 1, h => by
    unfold RDs at h
    obtain ⟨x, r, rfl, h1, h2⟩ := h
    exact RDs.cons h1 (RDs.take i h2)
theorem RDs.rev : ∀ {ds : List D} {vs : List V}, RDs K m B H ds vs → RDs K m B H ds.reverse vs.reverse
  | [], _, h => by unfold RDs at h; rw [h]; exact RDs.nil
  | d :: ds, vs, h => by
    unfold RDs at h
    obtain ⟨x, r, rfl, h1, h2⟩ := h
    rw [List.reverse_cons, List.reverse_cons]
    exact RDs.app (RDs.rev h2) (RDs.cons h1 RDs.nil)
theorem RDs.dropLast {ds : List D} {vs : List V} (h : RDs K m B H ds vs) : RDs K m B H ds.dropLast vs.dropLast := by
  rw [List.dropLast_eq_take, List.dropLast_eq_take, ← h.len]
  exact RDs.take _ h
theorem REs.get : ∀ {ρ : Env} {σ : L2.St} {i : Nat} {d : D}, REs K m B H ρ σ → ρ[i]? = some (some d) → ∃ v, σ[i]? = some (some v) ∧ RD K m B H d v
  | [], _, _, _, _, e => by simp at e
  | o :: ρ, σ, 0, _, ⟨x, r, e, h1, _⟩, q => by
    subst e
    simp at q
    obtain ⟨v, e, z⟩ := h1 _ q
    exact ⟨v, by simp [e], z⟩
  | o :: ρ, σ, i + 1, _, ⟨x, r, e, _, h2⟩, q => by
    subst e
    simp at q
    exact REs.get (i := i) h2 q
theorem REs.set : ∀ {ρ : Env} {σ : L2.St} {d : D} {v : V} (i : Nat), REs K m B H ρ σ → RD K m B H d v → REs K m B H (ρ.set i (some d)) (σ.set i (some v))
  | [], _, _, _, _, h, _ => by
    have h' : _ = _ := h
    rw [h']
    rfl
  | o :: ρ, σ, d, v, 0, ⟨x, r, e, h1, h2⟩, t => by
    subst e
    exact ⟨some v, r, rfl, fun d' q => ⟨v, rfl, by cases q; exact t⟩, h2⟩
  | o :: ρ, σ, d, v, i + 1, ⟨x, r, e, h1, h2⟩, t => by
    subst e
    exact ⟨x, _, rfl, h1, REs.set i h2 t⟩
theorem REs.setN : ∀ {ρ : Env} {σ : L2.St} (i : Nat), REs K m B H ρ σ → REs K m B H (ρ.set i none) (σ.set i none)
  | [], _, _, h => by
    have h' : _ = _ := h
    rw [h']
    rfl
  | o :: ρ, σ, 0, ⟨x, r, e, h1, h2⟩ => by
    subst e
    exact ⟨none, r, rfl, fun d' q => (nomatch q), h2⟩
  | o :: ρ, σ, i + 1, ⟨x, r, e, h1, h2⟩ => by
    subst e
    exact ⟨x, _, rfl, h1, REs.setN i h2⟩
theorem REs.len : ∀ {ρ : Env} {σ : L2.St}, REs K m B H ρ σ → ρ.length = σ.length
  | [], _, h => by
    have h' : _ = _ := h
    rw [h']
    rfl
  | o :: ρ, σ, ⟨x, r, e, _, h2⟩ => by
    subst e
    simp [REs.len h2]
end
def wipeD (ρ : Env) : List Nat → Env
  | [] => ρ
  | v :: vs => (wipeD ρ vs).set v none
theorem REs.wipe {K : PySem.W.Frag} {m B : List Addr} {H : Hp} {ρ : Env} {σ : L2.St} (h : REs K m B H ρ σ) : ∀ vs, REs K m B H (wipeD ρ vs) (L2.wipe σ vs)
  | [] => h
  | v :: vs => REs.setN v (REs.wipe h vs)

/-! ### the store and the heap -/
section
variable {K : PySem.W.Frag} {m m' B B' : List Addr} {H H' : Hp} {S : Sto}
theorem RS.at (r : RS K m B H S) {n : Nat} {o : O} (h : S[n]? = some o) : ∃ a, m[n]? = some a ∧ RO K m B H a o := by
  have hn : n < m.length := by rw [r.len]; exact (List.getElem?_eq_some_iff.mp h).1
  exact ⟨m[n], by simp [hn], r.ob n _ o (by simp [hn]) h⟩
theorem RS.in {n : Nat} {a : Addr} (h : m[n]? = some a) : a ∈ m := List.mem_of_getElem? h
theorem RO.ex {a : Addr} {o : O} (h : RO K m B H a o) : ∃ u, H a = some u := by
  cases o with
  | lst ds => obtain ⟨vs, e, _⟩ := h; exact ⟨_, e⟩
  | ins C fs => obtain ⟨dx, vs, e, _⟩ := h; exact ⟨_, e⟩
  | dct kvs => obtain ⟨vs, e, _⟩ := h; exact ⟨_, e⟩
  | dcT kvs => obtain ⟨vs, e, _⟩ := h; exact ⟨_, e⟩
  | iset p n => exact ⟨_, h⟩
theorem RS.ex (r : RS K m B H S) {a : Addr} (h : a ∈ m) : ∃ u, H a = some u := by
  obtain ⟨n, hn⟩ := List.mem_iff_getElem?.mp h
  have hl : n < S.length := by rw [← r.len]; exact (List.getElem?_eq_some_iff.mp hn).1
  exact (r.ob n a S[n] hn (by simp [hl])).ex
theorem RS.notin (r : RS K m B H S) {a : Addr} (h : H a = none) : a ∉ m := fun q => by
  obtain ⟨u, e⟩ := r.ex q
  rw [h] at e
  cases e
theorem RS.notB (r : RS K m B H S) {a : Addr} (h : H a = none) : a ∉ B := fun q => by
  obtain ⟨u, e⟩ := r.bn a q
  rw [h] at e
  cases e
theorem RO.mono {a : Addr} {o : O} (g : Tr m B H m' B' H') (he : H' a = H a) (h : RO K m B H a o) : RO K m' B' H' a o := by
  cases o with
  | lst ds => obtain ⟨vs, e, q⟩ := h; exact ⟨vs, he.trans e, RDs.mono g _ _ q⟩
  | ins C fs => obtain ⟨dx, vs, e, q⟩ := h; exact ⟨dx, vs, he.trans e, RFs.mono g _ _ q⟩
  | dct kvs => obtain ⟨vs, e, q⟩ := h; exact ⟨vs, he.trans e, RFs.mono g _ _ q⟩
  | dcT kvs => obtain ⟨vs, e, q⟩ := h; exact ⟨vs, he.trans e, RFs.mono g _ _ q⟩
  | iset p n => exact he.trans h
/-- the heap grew by things that are not put into the store -/
theorem RS.ext (r : RS K m B H S) (h : ∀ b o, H b = some o → H' b = some o) : Ge m H m H' ∧ RS K m B H' S := by
  have g : Ge m H m H' := ⟨⟨[], by simp⟩, fun b o hb e => ⟨hb, h b o e⟩⟩
  refine ⟨g, r.len, r.nd, r.dis, fun b hb => ?_, fun n a o h1 h2 => ?_⟩
  · obtain ⟨u, e⟩ := r.bn b hb
    exact ⟨u, h b u e⟩
  · have q := r.ob n a o h1 h2
    obtain ⟨u, e⟩ := q.ex
    exact q.mono g.tr (by rw [e]; exact h _ _ e)
theorem new_ext {p : Addr} {u : HO} (hp : H p = none) : ∀ b o, H b = some o → upd H p u b = some o := fun b o e => by rw [upd_ne (ne_of_none e hp)]; exact e
/-- a new thing that is not put into the store -/
theorem RS.new (r : RS K m B H S) {p : Addr} {u : HO} (hp : H p = none) : Ge m H m (upd H p u) ∧ RS K m B (upd H p u) S := r.ext (new_ext hp)
/-- the same, forbidden so far -/
theorem Tr.ban {p : Addr} {u : HO} (hp : H p = none) : Tr m B H m (p :: B) (upd H p u) := ⟨fun _ _ h => h, fun a u h1 h2 h3 => ⟨h1, by simp only [List.mem_cons, not_or]; exact ⟨ne_of_none h3 hp, h2⟩, new_ext hp _ _ h3⟩⟩
theorem RS.ban (r : RS K m B H S) {p : Addr} {u : HO} (hp : H p = none) : RS K m (p :: B) (upd H p u) S := by
  refine ⟨r.len, r.nd, fun a ha => ?_, fun b hb => ?_, fun n a o h1 h2 => ?_⟩
  · simp only [List.mem_cons, not_or]
    exact ⟨fun e => r.notin hp (by rw [← e]; exact ha), r.dis a ha⟩
  · rcases List.mem_cons.mp hb with rfl | hb
    · exact ⟨u, upd_same⟩
    · obtain ⟨w, e⟩ := r.bn b hb
      exact ⟨w, new_ext hp _ _ e⟩
  · exact (r.ob n a o h1 h2).mono (Tr.ban hp) (upd_ne fun e => r.notin hp (by rw [← e]; exact RS.in h1))
/-- what is forbidden may change -/
theorem Tr.chg {p : Addr} {u : HO} (hp : p ∈ B) : Tr m B H m B (upd H p u) := ⟨fun _ _ h => h, fun a w h1 h2 h3 => ⟨h1, h2, by rw [upd_ne fun e => h2 (by rw [e]; exact hp)]; exact h3⟩⟩
theorem RS.chg (r : RS K m B H S) {p : Addr} {u : HO} (hp : p ∈ B) : RS K m B (upd H p u) S := by
  refine ⟨r.len, r.nd, r.dis, fun b hb => ?_, fun n a o h1 h2 => ?_⟩
  · by_cases e : b = p
    · exact ⟨u, by rw [e]; exact upd_same⟩
    · rw [upd_ne e]
      exact r.bn b hb
  · exact (r.ob n a o h1 h2).mono (Tr.chg hp) (upd_ne fun e => r.dis a (RS.in h1) (by rw [e]; exact hp))
/-- no longer forbidden: a value | in the store -/
theorem Tr.free {p : Addr} : Tr m (p :: B) H m B H := ⟨fun _ _ h => h, fun a u h1 h2 h3 => ⟨h1, fun q => h2 (List.mem_cons_of_mem _ q), h3⟩⟩
theorem RS.free (r : RS K m (p :: B) H S) : RS K m B H S :=
  ⟨r.len, r.nd, fun a ha q => r.dis a ha (List.mem_cons_of_mem _ q), fun b hb => r.bn b (List.mem_cons_of_mem _ hb), fun n a o h1 h2 => (r.ob n a o h1 h2).mono Tr.free rfl⟩
theorem Tr.own {p : Addr} : Tr m (p :: B) H (m ++ [p]) B H := ⟨fun n a h => by
    rw [List.getElem?_append_left (List.getElem?_eq_some_iff.mp h).1]
    exact h, fun a u h1 h2 h3 => by
    simp only [List.mem_cons, not_or] at h2
    simp only [List.mem_append, List.mem_singleton, not_or]
    exact ⟨⟨h1, h2.1⟩, h2.2, h3⟩⟩
theorem RS.own (r : RS K m (p :: B) H S) {o : O} (hB : p ∉ B) (ho : RO K (m ++ [p]) B H p o) : RS K (m ++ [p]) B H (S ++ [o]) := by
  have hp : p ∉ m := fun h => r.dis p h (List.mem_cons_self ..)
  refine ⟨by simp [r.len], ?_, fun a ha => ?_, fun b hb => r.bn b (List.mem_cons_of_mem _ hb), fun n a o' h1 h2 => ?_⟩
  · rw [List.nodup_append]
    refine ⟨r.nd, by simp, fun a ha b hb e => ?_⟩
    simp at hb
    subst hb e
    exact hp ha
  · rcases List.mem_append.mp ha with h | h
    · exact fun q => r.dis a h (List.mem_cons_of_mem _ q)
    · simp at h
      subst h
      exact hB
  · by_cases hn : n < m.length
    · rw [List.getElem?_append_left hn] at h1
      rw [List.getElem?_append_left (by rw [← r.len]; exact hn)] at h2
      exact (r.ob n a o' h1 h2).mono Tr.own rfl
    · have e : n = m.length := by
        have := (List.getElem?_eq_some_iff.mp h1).1
        simp at this
        omega
      subst e
      rw [List.getElem?_append_right (Nat.le_refl _)] at h1
      rw [List.getElem?_append_right (by rw [r.len]; exact Nat.le_refl _), r.len] at h2
      simp at h1 h2
      subst h1 h2
      exact ho
theorem Ge.own {p : Addr} (g : Ge m H m' H') (hp : H p = none) : Ge m H (m' ++ [p]) H' := by
  obtain ⟨⟨l, e⟩, k⟩ := g
  exact ⟨⟨l ++ [p], by rw [e, List.append_assoc]⟩, fun b o hb q => ⟨by simp only [List.mem_append, List.mem_singleton, not_or]; exact ⟨(k b o hb q).1, ne_of_none q hp⟩, (k b o hb q).2⟩⟩
/-- a thing of the store is changed -/
theorem RS.put (r : RS K m B H S) {n : Nat} {a : Addr} {u : HO} {o : O} (hn : m[n]? = some a) (ho : ∀ H', Ge m H m H' → H' a = some u → RO K m B H' a o) : Ge m H m (upd H a u) ∧ RS K m B (upd H a u) (S.set n o) := by
  have g : Ge m H m (upd H a u) := ⟨⟨[], by simp⟩, fun b o hb e => ⟨hb, by rw [upd_ne fun z => hb (by rw [z]; exact RS.in hn)]; exact e⟩⟩
  refine ⟨g, by simp [r.len], r.nd, r.dis, fun b hb => ?_, fun k b o' h1 h2 => ?_⟩
  · rw [upd_ne fun e => r.dis a (RS.in hn) (by rw [← e]; exact hb)]
    exact r.bn b hb
  · by_cases hk : k = n
    · subst hk
      have hl : k < S.length := by rw [← r.len]; exact (List.getElem?_eq_some_iff.mp h1).1
      rw [List.getElem?_set_self hl] at h2
      rw [hn] at h1
      cases h1
      cases h2
      exact ho _ g upd_same
    · rw [List.getElem?_set_ne (Ne.symm hk)] at h2
      have hab : b ≠ a := fun e => by
        subst e
        obtain ⟨i1, e1⟩ := List.getElem?_eq_some_iff.mp h1
        obtain ⟨i2, e2⟩ := List.getElem?_eq_some_iff.mp hn
        exact hk ((List.getElem_inj r.nd).mp (e1.trans e2.symm))
      exact (r.ob k b o' h1 h2).mono g.tr (upd_ne hab)
end
end Z
namespace Z
open PySem L2

/-! ### readings over plain data -/
/-- what is wanted behind r -/
def Post {α : Type} (K : PySem.W.Frag) (m B : List Addr) (H : Hp) (W : Value → Option Addr → Hp → Prop) (P : α → Sto → List Addr → Hp → Prop) : R α → Prop
  | .ok a S' => ∀ m' H', Ge m H m' H' → RS K m' B H' S' → P a S' m' H'
  | .exc c d S' => ∀ m' H' x v, Ge m H m' H' → RS K m' B H' S' → H' x = some (.xd [("at", v)]) → RD K m' B H' d v → W (.ref c) (some x) H'
  | .bad => False
theorem Post.ge {α : Type} {K : PySem.W.Frag} {m m' B : List Addr} {H H' : Hp} {W : Value → Option Addr → Hp → Prop} {P : α → Sto → List Addr → Hp → Prop} {r : R α} (h : Post K m B H W P r) (g : Ge m H m' H') : Post K m' B H' W P r := by
  cases r with
  | ok a S => exact fun m2 H2 g2 r2 => h m2 H2 (g.trans g2) r2
  | exc c d S => exact fun m2 H2 x v g2 r2 e2 d2 => h m2 H2 x v (g.trans g2) r2 e2 d2
  | bad => exact h
theorem Post.imp {α : Type} {K : PySem.W.Frag} {m B : List Addr} {H : Hp} {W : Value → Option Addr → Hp → Prop} {P P' : α → Sto → List Addr → Hp → Prop} {r : R α} (h : Post K m B H W P r)
    (i : ∀ a S m' H', Ge m H m' H' → RS K m' B H' S → P a S m' H' → P' a S m' H') : Post K m B H W P' r := by
  cases r with
  | ok a S => exact fun m2 H2 g2 r2 => i a S m2 H2 g2 r2 (h m2 H2 g2 r2)
  | exc c d S => exact h
  | bad => exact h
/-- one step behind another -/
theorem Post.bind {α β : Type} {K : PySem.W.Frag} {m B : List Addr} {H : Hp} {W : Value → Option Addr → Hp → Prop} {P : β → Sto → List Addr → Hp → Prop} {r : R α} {f : α → Sto → R β} (h : Post K m B H W P (r.bind f)) :
    Post K m B H W (fun a S m' H' => Post K m' B H' W P (f a S)) r := by
  cases r with
  | ok a S => exact fun m2 H2 g2 r2 => Post.ge (show Post K m B H W P (f a S) from h) g2
  | exc c d S => exact h
  | bad => exact h

/-- the reading of an expression that comes to den; W: what is wanted of an error -/
def tE (W : WX) (K : PySem.W.Frag) (den : DE) : TE := fun σ H Q => ∃ m B ρ S, RS K m B H S ∧ REs K m B H ρ σ ∧ Post K m B H (fun c x H' => W c x σ H') (fun d _ m' H' => ∀ v, RD K m' B H' d v → Q v H') (den ρ S)
def tAr (W : WX) (K : PySem.W.Frag) (den : DA) : TA := fun σ H Q => ∃ m B ρ S, RS K m B H S ∧ REs K m B H ρ σ ∧ Post K m B H (fun c x H' => W c x σ H') (fun ds _ m' H' => ∀ vs, RDs K m' B H' ds vs → Q vs H') (den ρ S)
def tTe (W : WX) (K : PySem.W.Frag) (den : DT) : TT := fun σ H Q => ∃ m B ρ S, RS K m B H S ∧ REs K m B H ρ σ ∧ Post K m B H (fun c x H' => W c x σ H') (fun b _ _ H' => Q b H') (den ρ S)
def ZE (X : Cx) (e : Expr) (den : DE) : Prop := ∀ W, Takes X W → PE X e (tE W X.K den)
def ZA (X : Cx) (es : List Expr) (den : DA) : Prop := ∀ W, Takes X W → PA X es (tAr W X.K den)
def ZT (X : Cx) (e : Expr) (den : DT) : Prop := ∀ W, Takes X W → PT X e (tTe W X.K den)
def ZW (X : Cx) (e : Expr) (den : DT) : Prop := ∀ W, Takes X W → PW X e (tTe W X.K den)
theorem pe_weak {X : Cx} {e : Expr} {t t' : TE} (h : PE X e t) (i : ∀ σ H Q, t' σ H Q → t σ H Q) : PE X e t' := ⟨fun pins s σ H Q I q => h.run pins s σ H Q I (i σ H Q q)⟩
theorem pt_weak {X : Cx} {e : Expr} {t t' : TT} (h : PT X e t) (i : ∀ σ H Q, t' σ H Q → t σ H Q) : PT X e t' := ⟨fun pins s σ H Q I q => h.run pins s σ H Q I (i σ H Q q)⟩
theorem pw_weak {X : Cx} {e : Expr} {t t' : TT} (h : PW X e t) (i : ∀ σ H Q, t' σ H Q → t σ H Q) : PW X e t' := ⟨fun wh pins s σ H Q I q => h.run wh pins s σ H Q I (i σ H Q q)⟩
theorem pa_weak {X : Cx} {e : List Expr} {t t' : TA} (h : PA X e t) (i : ∀ σ H Q, t' σ H Q → t σ H Q) : PA X e t' := ⟨fun p pins s σ H Q I q => h.run p pins s σ H Q I (i σ H Q q)⟩
theorem pss_weak {X : Cx} {e : List Stmt} {t t' : TS} (h : PSs X e t) (i : ∀ D σ H, t' D σ H → t D σ H) : PSs X e t' := ⟨fun pins s σ H D I q => h.run pins s σ H D I (i D σ H q)⟩
theorem ps_weak {X : Cx} {e : Stmt} {t t' : TS} (h : PS X e t) (i : ∀ D σ H, t' D σ H → t D σ H) : PS X e t' := ⟨fun pins s σ H D I q => h.run pins s σ H D I (i D σ H q)⟩
theorem pg_weak {X : Cx} {e : Expr} {t t' : TG} (h : PG X e t) (i : ∀ v σ H Q, t' v σ H Q → t v σ H Q) : PG X e t' := ⟨fun pins s σ H x u Q I r q => h.run pins s σ H x u Q I r (i _ _ _ _ q)⟩
theorem pi_weak {X : Cx} {tg e : Expr} {t t' : TI} (h : PI X tg e t) (i : ∀ σ H Q, t' σ H Q → t σ H Q) : PI X tg e t' := ⟨fun pins s σ H Q I q => h.run pins s σ H Q I (i σ H Q q)⟩
/-- taken apart: what a part's reading is to give -/
theorem tE.take {W : WX} {K : PySem.W.Frag} {da : DE} {f : D → Sto → R D} {σ : L2.St} {H : Hp} {Q Q' : VK} {m B : List Addr} {ρ : Env} {S : Sto} (r : RS K m B H S) (e : REs K m B H ρ σ)
    (h : Post K m B H (fun c x H' => W c x σ H') (fun d _ m' H' => ∀ v, RD K m' B H' d v → Q v H') ((da ρ S).bind f))
    (k : ∀ d S1 m1 H1 v, Ge m H m1 H1 → RS K m1 B H1 S1 → REs K m1 B H1 ρ σ → RD K m1 B H1 d v → Post K m1 B H1 (fun c x H' => W c x σ H') (fun d _ m' H' => ∀ v, RD K m' B H' d v → Q v H') (f d S1) → Q' v H1) : tE W K da σ H Q' :=
  ⟨m, B, ρ, S, r, e, (Post.bind h).imp fun d S1 m1 H1 g1 r1 p v rv => k d S1 m1 H1 v g1 r1 (e.mono g1.tr) rv p⟩
/-- the same, any end -/
theorem take_any {α β : Type} {W : Value → Option Addr → Hp → Prop} {K : PySem.W.Frag} {r : R α} {f : α → Sto → R β} {H : Hp} {m B : List Addr} {P : β → Sto → List Addr → Hp → Prop} {P' : α → Sto → List Addr → Hp → Prop}
    (h : Post K m B H W P (r.bind f)) (k : ∀ a S1 m1 H1, Ge m H m1 H1 → RS K m1 B H1 S1 → Post K m1 B H1 W P (f a S1) → P' a S1 m1 H1) : Post K m B H W P' r :=
  (Post.bind h).imp fun a S1 m1 H1 g1 r1 p => k a S1 m1 H1 g1 r1 p
/-- what is there at once -/
theorem Post.now {α : Type} {K : PySem.W.Frag} {m B : List Addr} {H : Hp} {W : Value → Option Addr → Hp → Prop} {P : α → Sto → List Addr → Hp → Prop} {a : α} {S : Sto} (h : Post K m B H W P (.ok a S)) (r : RS K m B H S) : P a S m H := h m H (.refl m H) r

/-! ### names and constants -/
def eV (i : Nat) : DE := fun ρ S => match ρ[i]? with
  | some (some d) => .ok d S
  | _ => .bad
def eC (d : D) : DE := fun _ S => .ok d S
section
variable {X : Cx} {pos : Pos}
theorem REs.getE {K : PySem.W.Frag} {m B : List Addr} {H : Hp} {ρ : Env} {σ : L2.St} (h : REs K m B H ρ σ) {i : Nat} {d : D} (e : ρ[i]? = some (some d)) : ∃ v, σ[i]? = some (some v) ∧ RD K m B H d v := h.get e
theorem ze_var (i : Nat) {x : Str} (hN : X.N[i]? = some x := by rfl) (hv : Vis X.env.scope x := by first | exact Or.inl rfl | exact Or.inr (Or.inl rfl) | exact Or.inr (Or.inr rfl)) (hd : (x == ("__debug__" : Str)) = false := by decide)
    (hcd : (x == ("__classdict__" : Str)) = false := by decide) : ZE X (.Name x pos) (eV i) := fun W tk => pe_weak (pe_var hN hv hd hcd) fun σ H Q ⟨m, B, ρ, S, r, e, h⟩ => by
  unfold eV at h
  split at h
  · rename_i d hd'
    obtain ⟨v, e1, rv⟩ := e.getE hd'
    exact ⟨v, e1, h.now r v rv⟩
  · exact h.elim
theorem RDi {K : PySem.W.Frag} {m B : List Addr} {H : Hp} (i : Int) : RD K m B H (.int i) (.int i) := by unfold RD; rfl
theorem RDb {K : PySem.W.Frag} {m B : List Addr} {H : Hp} (i : Bool) : RD K m B H (.bl i) (.bl i) := by unfold RD; rfl
theorem RDn {K : PySem.W.Frag} {m B : List Addr} {H : Hp} : RD K m B H .non .non := by unfold RD; rfl
theorem RDst {K : PySem.W.Frag} {m B : List Addr} {H : Hp} (i : Str) : RD K m B H (.str i) (.str i) := by unfold RD; rfl
theorem RDt {K : PySem.W.Frag} {m B : List Addr} {H : Hp} (i : String) : RD K m B H (.ty i) (.ty i) := by unfold RD; rfl
theorem RDa {K : PySem.W.Frag} {m B : List Addr} {H : Hp} (a : Addr) : RD K m B H (.adr a) (.ref a) := by unfold RD; rfl
theorem ze_c {e : Expr} {d : D} {v : V} (h : PE X e (tC v)) (r : ∀ m B H, RD X.K m B H d v) : ZE X e (eC d) := fun W tk => pe_weak h fun σ H Q ⟨m, B, ρ, S, rs, e, h⟩ => h.now rs v (r m B H)
theorem ze_int {i : Int} {j : Nat} : ZE X (.Constant (.int i) j pos) (eC (.int i)) := ze_c pe_int fun _ _ _ => RDi i
theorem ze_bl {b : Bool} {j : Nat} : ZE X (.Constant (.bool b) j pos) (eC (.bl b)) := ze_c pe_bl fun _ _ _ => RDb b
theorem ze_non {j : Nat} : ZE X (.Constant .none j pos) (eC .non) := ze_c pe_non fun _ _ _ => RDn
theorem ze_str {x : Str} {j : Nat} : ZE X (.Constant (.str x) j pos) (eC (.str x)) := ze_c pe_str fun _ _ _ => RDst x
theorem ze_glob {x : Str} {u : Value} {v : V} {d : D} (hm : X.mg x = some u) (r : RelV v u) (r2 : ∀ m B H, RD X.K m B H d v) (hg : Gl X x := by rfl) (hd : (x == ("__debug__" : Str)) = false := by decide) : ZE X (.Name x pos) (eC d) := ze_c (pe_glob hg hm r hd) r2
end

/-! ### one part, two parts -/
def e1 (f : D → Sto → R D) (a : DE) : DE := fun ρ S => (a ρ S).bind f
def e2 (f : D → D → Sto → R D) (a b : DE) : DE := fun ρ S => (a ρ S).bind fun x S1 => (b ρ S1).bind fun y S2 => f x y S2
def OkOp (K : PySem.W.Frag) (r : R2) (f : D → D → Sto → R D) : Prop := ∀ m B H S d e x y (W : Value → Option Addr → Hp → Prop) (Q : VK), RS K m B H S → RD K m B H d x → RD K m B H e y → Post K m B H W (fun d _ m' H' => ∀ v, RD K m' B H' d v → Q v H') (f d e S) → r x y H Q
def OkUn (K : PySem.W.Frag) (r : V → Hp → VK → Prop) (f : D → Sto → R D) : Prop := ∀ m B H S d x (W : Value → Option Addr → Hp → Prop) (Q : VK), RS K m B H S → RD K m B H d x → Post K m B H W (fun d _ m' H' => ∀ v, RD K m' B H' d v → Q v H') (f d S) → r x H Q
section
variable {X : Cx} {pos : Pos} {a b : Expr} {da db : DE}
theorem te_op {K : PySem.W.Frag} {W : WX} {r : R2} {f : D → D → Sto → R D} (h : OkOp K r f) (σ : L2.St) (H : Hp) (Q : VK) : tE W K (e2 f da db) σ H Q → tOp r (tE W K da) (tE W K db) σ H Q := fun ⟨m, B, ρ, S, rs, e, p⟩ =>
  tE.take (f := fun x S1 => (db ρ S1).bind fun y S2 => f x y S2) rs e p fun d S1 m1 H1 v g1 r1 e1 rd p1 => tE.take (f := fun y S2 => f d y S2) r1 e1 p1 fun d' S2 m2 H2 v' g2 r2 e2 rd' p2 => h m2 B H2 S2 d d' v v' _ Q r2 (rd.mono g2.tr) rd' p2
theorem te_un {K : PySem.W.Frag} {W : WX} {r : V → Hp → VK → Prop} {f : D → Sto → R D} (h : OkUn K r f) (σ : L2.St) (H : Hp) (Q : VK) : tE W K (e1 f da) σ H Q → tUn r (tE W K da) σ H Q := fun ⟨m, B, ρ, S, rs, e, p⟩ =>
  tE.take (f := f) rs e p fun d S1 m1 H1 v g1 r1 e1 rd p1 => h m1 B H1 S1 d v _ Q r1 rd p1
theorem ze_op {op : Operator} {r : R2} {f : D → D → Sto → R D} (ho : OpR X (binaryOp op) r) (h : OkOp X.K r f) (ha : ZE X a da) (hb : ZE X b db) : ZE X (.BinOp a op b pos) (e2 f da db) := fun W tk => pe_weak (pe_op ho (ha W tk) (hb W tk)) (te_op h)
theorem ze_cmp {op : CmpOp} {r : R2} {f : D → D → Sto → R D} (ho : OpR X (compareOp op) r) (h : OkOp X.K r f) (ha : ZE X a da) (hb : ZE X b db) (hm : behindInMarks op b = false) : ZE X (.Compare a [op] [b] pos) (e2 f da db) := fun W tk =>
  pe_weak (pe_cmpR ho (ha W tk) (hb W tk) hm) (te_op h)
theorem ze_un {op : UnaryOp} {r : V → Hp → VK → Prop} {f : D → Sto → R D} (ho : UnR X (unaryOp op) r) (h : OkUn X.K r f) (ha : ZE X a da) : ZE X (.UnaryOp op a pos) (e1 f da) := fun W tk => pe_weak (pe_un ho (ha W tk)) (te_un h)
theorem ze_ix {r : R2} {f : D → D → Sto → R D} (ho : IxR X r) (h : OkOp X.K r f) (ha : ZE X a da) (hb : ZE X b db) (hs : PlainIx b := by exact fun _ _ => rfl) : ZE X (.Subscript a b pos) (e2 f da db) := fun W tk => pe_weak (pe_ix ho (ha W tk) (hb W tk) hs) (te_op h)
end
/-! ints -/
def fI (g : Int → Int → D) (c : Int → Int → Bool) : D → D → Sto → R D
  | .int i, .int j, S => if c i j = true then .ok (g i j) S else .bad
  | _, _, _ => .bad
theorem okI {K : PySem.W.Frag} {C : Int → Int → Prop} {g : Int → Int → V} {gd : Int → Int → D} {c : Int → Int → Bool} (hc : ∀ i j, c i j = true → C i j) (hg : ∀ m B H i j, RD K m B H (gd i j) (g i j)) : OkOp K (rI C g) (fI gd c) := by
  intro m B H S d e x y W Q rs rd re p
  cases d <;> try exact p.elim
  rename_i i
  cases e <;> try exact p.elim
  rename_i j
  unfold RD at rd re
  subst rd re
  have p : Post K m B H W _ (if c i j = true then .ok (gd i j) S else .bad) := p
  by_cases h : c i j = true
  · rw [if_pos h] at p
    exact ⟨i, j, rfl, rfl, hc i j h, p.now rs _ (hg m B H i j)⟩
  · rw [if_neg h] at p
    exact p.elim
def fI0 (g : Int → Int → D) : D → D → Sto → R D
  | .int i, .int j, S => .ok (g i j) S
  | _, _, _ => .bad
theorem okI0 {K : PySem.W.Frag} {g : Int → Int → V} {gd : Int → Int → D} (hg : ∀ m B H i j, RD K m B H (gd i j) (g i j)) : OkOp K (rI0 g) (fI0 gd) := by
  intro m B H S d e x y W Q rs rd re p
  cases d <;> try exact p.elim
  rename_i i
  cases e <;> try exact p.elim
  rename_i j
  unfold RD at rd re
  subst rd re
  exact ⟨i, j, rfl, rfl, p.now rs _ (hg m B H i j)⟩
section
variable {X : Cx} {pos : Pos} {a b : Expr} {da db : DE}
def fAdd := fI0 fun i j => .int (i + j)
def fSub := fI0 fun i j => .int (i - j)
def fLt := fI0 fun i j => .bl (decide (i < j))
def fLe := fI0 fun i j => .bl (decide (i ≤ j))
def fGt := fI0 fun i j => .bl (decide (j < i))
def fGe := fI0 fun i j => .bl (decide (j ≤ i))
/-- the remainder by what is above nought -/
def fMod := fI (fun i j => .int (i % j)) fun _ j => decide (0 < j)
theorem ze_add (ha : ZE X a da) (hb : ZE X b db) : ZE X (.BinOp a .Add b pos) (e2 fAdd da db) := ze_op op_add (okI0 fun _ _ _ _ _ => RDi _) ha hb
theorem ze_sub (ha : ZE X a da) (hb : ZE X b db) : ZE X (.BinOp a .Sub b pos) (e2 fSub da db) := ze_op op_sub (okI0 fun _ _ _ _ _ => RDi _) ha hb
theorem ze_mod (ha : ZE X a da) (hb : ZE X b db) : ZE X (.BinOp a .Mod b pos) (e2 fMod da db) := ze_op op_mod (okI (fun _ _ h => of_decide_eq_true h) fun _ _ _ _ _ => RDi _) ha hb
theorem ze_lt (ha : ZE X a da) (hb : ZE X b db) : ZE X (.Compare a [.Lt] [b] pos) (e2 fLt da db) := ze_cmp op_lt (okI0 fun _ _ _ _ _ => RDb _) ha hb (nomark _)
theorem ze_le (ha : ZE X a da) (hb : ZE X b db) : ZE X (.Compare a [.LtE] [b] pos) (e2 fLe da db) := ze_cmp op_le (okI0 fun _ _ _ _ _ => RDb _) ha hb (nomark _)
theorem ze_gt (ha : ZE X a da) (hb : ZE X b db) : ZE X (.Compare a [.Gt] [b] pos) (e2 fGt da db) := ze_cmp op_gt (okI0 fun _ _ _ _ _ => RDb _) ha hb (nomark _)
theorem ze_ge (ha : ZE X a da) (hb : ZE X b db) : ZE X (.Compare a [.GtE] [b] pos) (e2 fGe da db) := ze_cmp op_ge (okI0 fun _ _ _ _ _ => RDb _) ha hb (nomark _)
end
end Z
namespace Z
open PySem L2

/-! ### plain data for == -/
mutual
def toP (S : Sto) : D → Option PyData
  | .non => some .none
  | .bl b => some (.bool b)
  | .int i => some (.int i)
  | .str s => some (.str s)
  | .tup ds => (toPs S ds).map .tuple
  | .lst ds => (toPs S ds).map .list
  | .scr ds => (toPs S ds).map .list
  | .ref n => match S[n]? with
    | some (.lst ds) => (flatPs ds).map .list
    | _ => none
  | _ => none
def toPs (S : Sto) : List D → Option (List PyData)
  | [] => some []
  | d :: ds => (toP S d).bind fun p => (toPs S ds).map fun ps => p :: ps
/-- one level of a list of the store: what is in it holds nothing of the store -/
def flatP : D → Option PyData
  | .non => some .none
  | .bl b => some (.bool b)
  | .int i => some (.int i)
  | .str s => some (.str s)
  | .tup ds => (flatPs ds).map .tuple
  | .lst ds => (flatPs ds).map .list
  | .scr ds => (flatPs ds).map .list
  | _ => none
def flatPs : List D → Option (List PyData)
  | [] => some []
  | d :: ds => (flatP d).bind fun p => (flatPs ds).map fun ps => p :: ps
end
section
variable {K : PySem.W.Frag} {m B : List Addr} {H : Hp} {S : Sto}
mutual
theorem flatP_ok : ∀ {d : D} {v : V} {p : PyData}, RD K m B H d v → flatP d = some p → Dp K H v p
  | .non, _, _, h, e => by unfold RD at h; simp only [flatP] at e; cases e; subst h; exact .non
  | .bl b, _, _, h, e => by unfold RD at h; simp only [flatP] at e; cases e; subst h; exact .bl b
  | .int b, _, _, h, e => by unfold RD at h; simp only [flatP] at e; cases e; subst h; exact .int b
  | .str b, _, _, h, e => by unfold RD at h; simp only [flatP] at e; cases e; subst h; exact .str b
  | .tup ds, _, _, h, e => by
    unfold RD at h
    obtain ⟨a, vs, rfl, f, r⟩ := h
    simp only [flatP, Option.map_eq_some_iff] at e
    obtain ⟨ps, e1, rfl⟩ := e
    exact .tup f.sq (flatPs_ok r e1)
  | .lst ds, _, _, h, e => by
    unfold RD at h
    obtain ⟨a, vs, rfl, f, r⟩ := h
    simp only [flatP, Option.map_eq_some_iff] at e
    obtain ⟨ps, e1, rfl⟩ := e
    exact .lst f.sq (flatPs_ok r e1)
  | .scr ds, _, _, h, e => by
    unfold RD at h
    obtain ⟨a, vs, rfl, f, r⟩ := h
    simp only [flatP, Option.map_eq_some_iff] at e
    obtain ⟨ps, e1, rfl⟩ := e
    exact .lst f.sq (flatPs_ok r e1)
  | .ref n, _, _, h, e => by simp only [flatP] at e; cases e
  | .adr n, _, _, h, e => by simp only [flatP] at e; cases e
  | .ty n, _, _, h, e => by simp only [flatP] at e; cases e
theorem flatPs_ok : ∀ {ds : List D} {vs : List V} {ps : List PyData}, RDs K m B H ds vs → flatPs ds = some ps → DpAll K H vs ps
  | [], _, _, h, e => by unfold RDs at h; simp only [flatPs] at e; cases e; subst h; exact .nil
  | d :: ds, _, _, h, e => by
    unfold RDs at h
    obtain ⟨x, r, rfl, h1, h2⟩ := h
    simp only [flatPs, Option.bind_eq_some_iff, Option.map_eq_some_iff] at e
    obtain ⟨p, e1, ps, e2, rfl⟩ := e
    exact .cons (flatP_ok h1 e1) (flatPs_ok h2 e2)
end
mutual
theorem toP_ok (rs : RS K m B H S) : ∀ {d : D} {v : V} {p : PyData}, RD K m B H d v → toP S d = some p → Dp K H v p
  | .non, _, _, h, e => by unfold RD at h; simp only [toP] at e; cases e; subst h; exact .non
  | .bl b, _, _, h, e => by unfold RD at h; simp only [toP] at e; cases e; subst h; exact .bl b
  | .int b, _, _, h, e => by unfold RD at h; simp only [toP] at e; cases e; subst h; exact .int b
  | .str b, _, _, h, e => by unfold RD at h; simp only [toP] at e; cases e; subst h; exact .str b
  | .tup ds, _, _, h, e => by
    unfold RD at h
    obtain ⟨a, vs, rfl, f, r⟩ := h
    simp only [toP, Option.map_eq_some_iff] at e
    obtain ⟨ps, e1, rfl⟩ := e
    exact .tup f.sq (toPs_ok rs r e1)
  | .lst ds, _, _, h, e => by
    unfold RD at h
    obtain ⟨a, vs, rfl, f, r⟩ := h
    simp only [toP, Option.map_eq_some_iff] at e
    obtain ⟨ps, e1, rfl⟩ := e
    exact .lst f.sq (toPs_ok rs r e1)
  | .scr ds, _, _, h, e => by
    unfold RD at h
    obtain ⟨a, vs, rfl, f, r⟩ := h
    simp only [toP, Option.map_eq_some_iff] at e
    obtain ⟨ps, e1, rfl⟩ := e
    exact .lst f.sq (toPs_ok rs r e1)
  | .ref n, _, _, h, e => by
    unfold RD at h
    obtain ⟨a, rfl, q⟩ := h
    simp only [toP] at e
    split at e
    · rename_i ds hn
      simp only [Option.map_eq_some_iff] at e
      obtain ⟨ps, e1, rfl⟩ := e
      obtain ⟨vs, ea, rv⟩ := rs.ob n a _ q hn
      exact .lst (SqL.of ea) (flatPs_ok rv e1)
    · cases e
  | .adr n, _, _, h, e => by simp only [toP] at e; cases e
  | .ty n, _, _, h, e => by simp only [toP] at e; cases e
theorem toPs_ok (rs : RS K m B H S) : ∀ {ds : List D} {vs : List V} {ps : List PyData}, RDs K m B H ds vs → toPs S ds = some ps → DpAll K H vs ps
  | [], _, _, h, e => by unfold RDs at h; simp only [toPs] at e; cases e; subst h; exact .nil
  | d :: ds, _, _, h, e => by
    unfold RDs at h
    obtain ⟨x, r, rfl, h1, h2⟩ := h
    simp only [toPs, Option.bind_eq_some_iff, Option.map_eq_some_iff] at e
    obtain ⟨p, e1, ps, e2, rfl⟩ := e
    exact .cons (toP_ok rs h1 e1) (toPs_ok rs h2 e2)
end
end
def eqD (S : Sto) (d e : D) : Option Bool := match toP S d, toP S e with
  | some p, some q => if SeqAt.shaped p = true ∧ SeqAt.shaped q = true then some (PyData.eqv p q) else none
  | _, _ => none
def rB (o : Option Bool) (S : Sto) : R D := match o with
  | some b => .ok (.bl b) S
  | none => .bad
def fEq (d e : D) (S : Sto) : R D := rB (eqD S d e) S
def fNe (d e : D) (S : Sto) : R D := rB ((eqD S d e).map (!·)) S
theorem eqD_ok {K : PySem.W.Frag} {m B : List Addr} {H : Hp} {S : Sto} {d e : D} {x y : V} {b : Bool} (rs : RS K m B H S) (rd : RD K m B H d x) (re : RD K m B H e y) (h : eqD S d e = some b) :
    ∃ p q, Dp K H x p ∧ Dp K H y q ∧ SeqAt.shaped p = true ∧ SeqAt.shaped q = true ∧ b = PyData.eqv p q := by
  unfold eqD at h
  split at h
  · rename_i p q hp hq
    split at h
    · rename_i hs
      exact ⟨p, q, toP_ok rs rd hp, toP_ok rs re hq, hs.1, hs.2, (Option.some.inj h).symm⟩
    · cases h
  · cases h
theorem okEq {K : PySem.W.Frag} : OkOp K (rEqD K) fEq := by
  intro m B H S d e x y W Q rs rd re p
  unfold fEq rB at p
  split at p
  · rename_i b hb
    obtain ⟨p1, q1, h1, h2, h3, h4, rfl⟩ := eqD_ok rs rd re hb
    exact ⟨p1, q1, h1, h2, h3, h4, p.now rs _ (RDb _)⟩
  · exact p.elim
theorem okNe {K : PySem.W.Frag} : OkOp K (rNeD K) fNe := by
  intro m B H S d e x y W Q rs rd re p
  unfold fNe rB at p
  split at p
  · rename_i b hb
    simp only [Option.map_eq_some_iff] at hb
    obtain ⟨b', hb', rfl⟩ := hb
    obtain ⟨p1, q1, h1, h2, h3, h4, rfl⟩ := eqD_ok rs rd re hb'
    exact ⟨p1, q1, h1, h2, h3, h4, p.now rs _ (RDb _)⟩
  · exact p.elim
/-- x in a list (or what is written as one) -/
def fIn (d e : D) (S : Sto) : R D := match toP S d, toP S e with
  | some p, some (.list qs) => if SeqAt.shaped p = true ∧ SeqAt.shaped (.list qs) = true then .ok (.bl (qs.any fun z => PyData.eqv z p)) S else .bad
  | _, _ => .bad
def fNotIn (d e : D) (S : Sto) : R D := match toP S d, toP S e with
  | some p, some (.list qs) => if SeqAt.shaped p = true ∧ SeqAt.shaped (.list qs) = true then .ok (.bl (!qs.any fun z => PyData.eqv z p)) S else .bad
  | _, _ => .bad
theorem okIn {K : PySem.W.Frag} : OkOp K (rInD K) fIn := by
  intro m B H S d e x y W Q rs rd re p
  unfold fIn at p
  split at p
  · rename_i p1 qs h1 h2
    split at p
    · rename_i hs
      exact ⟨p1, qs, toP_ok rs rd h1, toP_ok rs re h2, hs.1, hs.2, p.now rs _ (RDb _)⟩
    · exact p.elim
  · exact p.elim
theorem okNotIn {K : PySem.W.Frag} : OkOp K (rNotInD K) fNotIn := by
  intro m B H S d e x y W Q rs rd re p
  unfold fNotIn at p
  split at p
  · rename_i p1 qs h1 h2
    split at p
    · rename_i hs
      exact ⟨p1, qs, toP_ok rs rd h1, toP_ok rs re h2, hs.1, hs.2, p.now rs _ (RDb _)⟩
    · exact p.elim
  · exact p.elim
def fIsN (d : D) (S : Sto) : R D := match d with
  | .non => .ok (.bl true) S
  | _ => .ok (.bl false) S
def fNotN (d : D) (S : Sto) : R D := match d with
  | .non => .ok (.bl false) S
  | _ => .ok (.bl true) S
theorem RD.isN {K : PySem.W.Frag} {m B : List Addr} {H : Hp} : ∀ {d : D} {v : V}, RD K m B H d v → decide (v = .non) = (match d with | .non => true | _ => false)
  | .non, _, h => by unfold RD at h; subst h; rfl
  | .bl _, _, h => by unfold RD at h; subst h; rfl
  | .int _, _, h => by unfold RD at h; subst h; rfl
  | .str _, _, h => by unfold RD at h; subst h; rfl
  | .ty _, _, h => by unfold RD at h; subst h; rfl
  | .adr _, _, h => by unfold RD at h; subst h; rfl
  | .tup _, _, h => by unfold RD at h; obtain ⟨a, vs, rfl, _⟩ := h; rfl
  | .lst _, _, h => by unfold RD at h; obtain ⟨a, vs, rfl, _⟩ := h; rfl
  | .scr _, _, h => by unfold RD at h; obtain ⟨a, vs, rfl, _⟩ := h; rfl
  | .ref _, _, h => by unfold RD at h; obtain ⟨a, rfl, _⟩ := h; rfl
/-- is of two truth values -/
def fIsB : D → D → Sto → R D
  | .bl a, .bl b, S => .ok (.bl (decide (a = b))) S
  | _, _, _ => .bad
theorem okIsB {K : PySem.W.Frag} : OkOp K rIsB fIsB := by
  intro m B H S d e x y W Q rs rd re p
  cases d <;> try exact p.elim
  rename_i i
  cases e <;> try exact p.elim
  rename_i j
  unfold RD at rd re
  subst rd re
  exact ⟨i, j, rfl, rfl, p.now rs _ (RDb _)⟩
section
variable {X : Cx} {pos : Pos} {a b : Expr} {da db : DE}
theorem ze_eq (hu : X.A.units + 64 < cLine) (ha : ZE X a da) (hb : ZE X b db) : ZE X (.Compare a [.Eq] [b] pos) (e2 fEq da db) := ze_cmp (op_eqD hu) okEq ha hb (nomark _)
theorem ze_ne (hu : X.A.units + 64 < cLine) (ha : ZE X a da) (hb : ZE X b db) : ZE X (.Compare a [.NotEq] [b] pos) (e2 fNe da db) := ze_cmp (op_neD hu) okNe ha hb (nomark _)
theorem ze_in (hu : X.A.units + 65 < cLine) (ha : ZE X a da) (hb : ZE X b db) (hm : behindInMarks .In b = false := by rfl) : ZE X (.Compare a [.In] [b] pos) (e2 fIn da db) := ze_cmp (op_inD hu) okIn ha hb hm
theorem ze_notin (hu : X.A.units + 65 < cLine) (ha : ZE X a da) (hb : ZE X b db) (hm : behindInMarks .NotIn b = false := by rfl) : ZE X (.Compare a [.NotIn] [b] pos) (e2 fNotIn da db) := ze_cmp (op_notInD hu) okNotIn ha hb hm
theorem ze_isN {j : Nat} {p2 : Pos} (ha : ZE X a da) : ZE X (.Compare a [.Is] [.Constant .none j p2] pos) (e1 fIsN da) := fun W tk => pe_weak (pe_cmp (pc_isN (ha W tk)) rfl) fun σ H Q ⟨m, B, ρ, S, rs, e, p⟩ =>
  tE.take (f := fIsN) rs e p fun d S1 m1 H1 v g1 r1 e1 rd p1 => by
    rw [rd.isN]
    cases d <;> exact p1.now r1 _ (RDb _)
theorem ze_notN {j : Nat} {p2 : Pos} (ha : ZE X a da) : ZE X (.Compare a [.IsNot] [.Constant .none j p2] pos) (e1 fNotN da) := fun W tk => pe_weak (pe_cmp (pc_notN (ha W tk)) rfl) fun σ H Q ⟨m, B, ρ, S, rs, e, p⟩ =>
  tE.take (f := fNotN) rs e p fun d S1 m1 H1 v g1 r1 e1 rd p1 => by
    rw [rd.isN]
    cases d <;> exact p1.now r1 _ (RDb _)
theorem ze_isB (ha : ZE X a da) (hb : ZE X b db) : ZE X (.Compare a [.Is] [b] pos) (e2 fIsB da db) := ze_cmp op_isBl okIsB ha hb (nomark _)
end

/-! ### truth -/
def tru (S : Sto) : D → Option Bool
  | .non => some false
  | .bl b => some b
  | .int i => some (i != 0)
  | .str s => if s.length ≤ 16777216 then some (s.length != 0) else none
  | .tup ds => some (!ds.isEmpty)
  | .lst ds => some (!ds.isEmpty)
  | .scr ds => some (!ds.isEmpty)
  | .ref n => match S[n]? with
    | some (.lst ds) => some (!ds.isEmpty)
    | _ => none
  | _ => none
theorem RDs.emp {K : PySem.W.Frag} {m B : List Addr} {H : Hp} {ds : List D} {vs : List V} (h : RDs K m B H ds vs) : ds.isEmpty = vs.isEmpty := by
  cases ds with
  | nil => unfold RDs at h; subst h; rfl
  | cons d ds => unfold RDs at h; obtain ⟨x, r, rfl, _⟩ := h; rfl
theorem tru_is {K : PySem.W.Frag} {m B : List Addr} {H : Hp} {S : Sto} (rs : RS K m B H S) : ∀ {d : D} {v : V} {b : Bool}, RD K m B H d v → tru S d = some b → TruV K v H b
  | .non, _, _, h, e => by unfold RD at h; subst h; simp only [tru] at e; cases e; rfl
  | .bl _, _, _, h, e => by unfold RD at h; subst h; simp only [tru] at e; cases e; rfl
  | .int _, _, _, h, e => by unfold RD at h; subst h; simp only [tru] at e; cases e; rfl
  | .str s, _, _, h, e => by
    unfold RD at h
    subst h
    simp only [tru] at e
    split at e
    · rename_i hz
      cases e
      refine ⟨by rw [sizeLine_eq]; exact hz, ?_⟩
      cases hl : s.length with
      | zero => rfl
      | succ n =>
        have h1 : ((n + 1 : Nat) != 0) = true := by simp
        have h2 : (((n + 1 : Nat) : Int) != 0) = true := by
          rw [bne_iff_ne]
          omega
        rw [h1, h2]
    · cases e
  | .tup ds, _, _, h, e => by unfold RD at h; obtain ⟨a, vs, rfl, f, r⟩ := h; simp only [tru] at e; cases e; exact .inr (.inl ⟨vs, f.sq, by rw [r.emp]⟩)
  | .lst ds, _, _, h, e => by unfold RD at h; obtain ⟨a, vs, rfl, f, r⟩ := h; simp only [tru] at e; cases e; exact .inl ⟨vs, f.sq, by rw [r.emp]⟩
  | .scr ds, _, _, h, e => by unfold RD at h; obtain ⟨a, vs, rfl, f, r⟩ := h; simp only [tru] at e; cases e; exact .inl ⟨vs, f.sq, by rw [r.emp]⟩
  | .ref n, _, _, h, e => by
    unfold RD at h
    obtain ⟨a, rfl, q⟩ := h
    simp only [tru] at e
    split at e
    · rename_i ds hn
      cases e
      obtain ⟨vs, ea, rv⟩ := rs.ob n a _ q hn
      exact .inl ⟨vs, SqL.of ea, by rw [rv.emp]⟩
    · cases e
  | .adr _, _, _, _, e => by simp only [tru] at e; cases e
  | .ty _, _, _, _, e => by simp only [tru] at e; cases e
/-- the test by the value -/
def tV (a : DE) : DT := fun ρ S => (a ρ S).bind fun d S1 => match tru S1 d with
  | some b => .ok b S1
  | none => .bad
def tNot (t : DT) : DT := fun ρ S => (t ρ S).bind fun b S1 => .ok (!b) S1
def tAnd (t u : DT) : DT := fun ρ S => (t ρ S).bind fun b S1 => if b = true then u ρ S1 else .ok false S1
def tOr (t u : DT) : DT := fun ρ S => (t ρ S).bind fun b S1 => if b = true then .ok true S1 else u ρ S1
def eAnd (a b : DE) : DE := fun ρ S => (a ρ S).bind fun d S1 => match tru S1 d with
  | some k => if k = true then b ρ S1 else .ok d S1
  | none => .bad
def eOr (a b : DE) : DE := fun ρ S => (a ρ S).bind fun d S1 => match tru S1 d with
  | some k => if k = true then .ok d S1 else b ρ S1
  | none => .bad
def eNot (a : DE) : DE := fun ρ S => (a ρ S).bind fun d S1 => match tru S1 d with
  | some k => .ok (.bl (!k)) S1
  | none => .bad
def eIf (t : DT) (a b : DE) : DE := fun ρ S => (t ρ S).bind fun k S1 => if k = true then a ρ S1 else b ρ S1
section
variable {X : Cx} {pos : Pos} {a b c : Expr} {rest : List Expr} {da db : DE} {ta tb : DT}
theorem tTe.take {β : Type} {W : WX} {K : PySem.W.Frag} {dt : DT} {f : Bool → Sto → R β} {σ : L2.St} {H : Hp} {Q' : Bool → Hp → Prop} {m B : List Addr} {ρ : Env} {S : Sto} {P : β → Sto → List Addr → Hp → Prop} (r : RS K m B H S) (e : REs K m B H ρ σ)
    (h : Post K m B H (fun c x H' => W c x σ H') P ((dt ρ S).bind f))
    (k : ∀ b S1 m1 H1, Ge m H m1 H1 → RS K m1 B H1 S1 → REs K m1 B H1 ρ σ → Post K m1 B H1 (fun c x H' => W c x σ H') P (f b S1) → Q' b H1) : tTe W K dt σ H Q' :=
  ⟨m, B, ρ, S, r, e, (Post.bind h).imp fun d S1 m1 H1 g1 r1 p => k d S1 m1 H1 g1 r1 (e.mono g1.tr) p⟩
theorem tE.takeA {β : Type} {W : WX} {K : PySem.W.Frag} {da : DE} {f : D → Sto → R β} {σ : L2.St} {H : Hp} {Q' : VK} {m B : List Addr} {ρ : Env} {S : Sto} {P : β → Sto → List Addr → Hp → Prop} (r : RS K m B H S) (e : REs K m B H ρ σ)
    (h : Post K m B H (fun c x H' => W c x σ H') P ((da ρ S).bind f))
    (k : ∀ d S1 m1 H1 v, Ge m H m1 H1 → RS K m1 B H1 S1 → REs K m1 B H1 ρ σ → RD K m1 B H1 d v → Post K m1 B H1 (fun c x H' => W c x σ H') P (f d S1) → Q' v H1) : tE W K da σ H Q' :=
  ⟨m, B, ρ, S, r, e, (Post.bind h).imp fun d S1 m1 H1 g1 r1 p v rv => k d S1 m1 H1 v g1 r1 (e.mono g1.tr) rv p⟩
theorem zt_val (ha : ZE X a da) (he : ∀ whole, isTrue a X.env whole = (do let v ← whole; standAt a.pos; holding [v] (truthy v)) := by intro _; rfl) : ZT X a (tV da) := fun W tk => pt_weak (pt_truth (ha W tk) he) fun σ H Q ⟨m, B, ρ, S, rs, e, p⟩ =>
  tE.takeA rs e p fun d S1 m1 H1 v g1 r1 e1 rd p1 => by
    cases h : tru S1 d with
    | none => simp only [h] at p1; exact p1.elim
    | some b => simp only [h] at p1; exact ⟨b, tru_is r1 rd h, p1.now r1⟩
theorem zt_not (ha : ZT X a ta) : ZT X (.UnaryOp .Not a pos) (tNot ta) := fun W tk => pt_weak (pt_not (ha W tk)) fun σ H Q ⟨m, B, ρ, S, rs, e, p⟩ => tTe.take rs e p fun b S1 m1 H1 g1 r1 e1 p1 => p1.now r1
theorem zw_and1 (ha : ZT X a ta) : ZW X (.BoolOp .And [a] pos) ta := fun W tk => pw_and1 (ha W tk)
theorem zw_or1 (ha : ZT X a ta) : ZW X (.BoolOp .Or [a] pos) ta := fun W tk => pw_or1 (ha W tk)
theorem zw_and (ha : ZT X a ta) (hb : ZW X (.BoolOp .And (b :: rest) pos) tb) : ZW X (.BoolOp .And (a :: b :: rest) pos) (tAnd ta tb) := fun W tk => pw_weak (pw_and (ha W tk) (hb W tk)) fun σ H Q ⟨m, B, ρ, S, rs, e, p⟩ => tTe.take rs e p fun b S1 m1 H1 g1 r1 e1 p1 => by
  cases b with
  | true => exact ⟨m1, B, ρ, S1, r1, e1, p1⟩
  | false => exact p1.now r1
theorem zw_or (ha : ZT X a ta) (hb : ZW X (.BoolOp .Or (b :: rest) pos) tb) : ZW X (.BoolOp .Or (a :: b :: rest) pos) (tOr ta tb) := fun W tk => pw_weak (pw_or (ha W tk) (hb W tk)) fun σ H Q ⟨m, B, ρ, S, rs, e, p⟩ => tTe.take rs e p fun b S1 m1 H1 g1 r1 e1 p1 => by
  cases b with
  | true => exact p1.now r1
  | false => exact ⟨m1, B, ρ, S1, r1, e1, p1⟩
theorem zt_w {e : Expr} (h : ZW X e ta) : ZT X e ta := fun W tk => (h W tk).pt
theorem ze_one {op : BoolOp} (ha : ZE X a da) : ZE X (.BoolOp op [a] pos) da := fun W tk => pe_one (ha W tk)
theorem ze_and (ha : ZE X a da) (hb : ZE X (.BoolOp .And (b :: rest) pos) db) : ZE X (.BoolOp .And (a :: b :: rest) pos) (eAnd da db) := fun W tk => pe_weak (pe_andT (ha W tk) (hb W tk)) fun σ H Q ⟨m, B, ρ, S, rs, e, p⟩ =>
  tE.takeA rs e p fun d S1 m1 H1 v g1 r1 e1 rd p1 => by
    cases h : tru S1 d with
    | none => simp only [h] at p1; exact p1.elim
    | some b =>
      simp only [h] at p1
      refine ⟨b, tru_is r1 rd h, ?_⟩
      cases b with
      | true => exact ⟨m1, B, ρ, S1, r1, e1, p1⟩
      | false => exact p1.now r1 v rd
theorem ze_or (ha : ZE X a da) (hb : ZE X (.BoolOp .Or (b :: rest) pos) db) : ZE X (.BoolOp .Or (a :: b :: rest) pos) (eOr da db) := fun W tk => pe_weak (pe_orT (ha W tk) (hb W tk)) fun σ H Q ⟨m, B, ρ, S, rs, e, p⟩ =>
  tE.takeA rs e p fun d S1 m1 H1 v g1 r1 e1 rd p1 => by
    cases h : tru S1 d with
    | none => simp only [h] at p1; exact p1.elim
    | some b =>
      simp only [h] at p1
      refine ⟨b, tru_is r1 rd h, ?_⟩
      cases b with
      | true => exact p1.now r1 v rd
      | false => exact ⟨m1, B, ρ, S1, r1, e1, p1⟩
theorem ze_not (ha : ZE X a da) : ZE X (.UnaryOp .Not a pos) (eNot da) := fun W tk => pe_weak (pe_notT (ha W tk)) fun σ H Q ⟨m, B, ρ, S, rs, e, p⟩ =>
  tE.takeA rs e p fun d S1 m1 H1 v g1 r1 e1 rd p1 => by
    cases h : tru S1 d with
    | none => simp only [h] at p1; exact p1.elim
    | some b => simp only [h] at p1; exact ⟨b, tru_is r1 rd h, p1.now r1 _ (RDb _)⟩
theorem ze_ifx (hc : ZT X c ta) (ha : ZE X a da) (hb : ZE X b db) : ZE X (.IfExp c a b pos) (eIf ta da db) := fun W tk => pe_weak (pe_ifExp (hc W tk) (ha W tk) (hb W tk)) fun σ H Q ⟨m, B, ρ, S, rs, e, p⟩ => tTe.take rs e p fun b S1 m1 H1 g1 r1 e1 p1 => by
  cases b with
  | true => exact ⟨m1, B, ρ, S1, r1, e1, p1⟩
  | false => exact ⟨m1, B, ρ, S1, r1, e1, p1⟩
end
end Z
namespace Z
open PySem L2

/-! ### argument lists, displays -/
def aN : DA := fun _ S => .ok [] S
def aC (a : DE) (r : DA) : DA := fun ρ S => (a ρ S).bind fun d S1 => (r ρ S1).bind fun ds S2 => .ok (d :: ds) S2
def eTup (r : DA) : DE := fun ρ S => (r ρ S).bind fun ds S1 => .ok (.tup ds) S1
/-- how many there are is known -/
def LenA (n : Nat) (r : DA) : Prop := ∀ ρ S, match r ρ S with
  | .ok ds _ => ds.length = n
  | _ => True
/-- what is wanted of a new list: it is not yet in the store, and nothing else holds it -/
def PostL (K : PySem.W.Frag) (m B : List Addr) (H : Hp) (W : Value → Option Addr → Hp → Prop) (Q : VK) : R (List D) → Prop
  | .ok ds S' => ∀ m' H' p vs, Ge m H m' H' → RS K m' (p :: B) H' S' → p ∉ B → H p = none → H' p = some (.lst vs) → RDs K m' (p :: B) H' ds vs → Q (.ref p) H'
  | .exc c d S' => ∀ m' H' x v, Ge m H m' H' → RS K m' B H' S' → H' x = some (.xd [("at", v)]) → RD K m' B H' d v → W (.ref c) (some x) H'
  | .bad => False
/-- an expression that makes a new list -/
def tL (W : WX) (K : PySem.W.Frag) (den : DA) : TE := fun σ H Q => ∃ m B ρ S, RS K m B H S ∧ REs K m B H ρ σ ∧ PostL K m B H (fun c x H' => W c x σ H') Q (den ρ S)
def ZL (X : Cx) (e : Expr) (den : DA) : Prop := ∀ W, Takes X W → PE X e (tL W X.K den)
/-- .. as a value that nobody changes -/
def eLV (r : DA) : DE := fun ρ S => (r ρ S).bind fun ds S1 => .ok (.lst ds) S1
/-- .. put into the store -/
def eLN (r : DA) : DE := fun ρ S => (r ρ S).bind fun ds S1 => .ok (.ref S1.length) (S1 ++ [.lst ds])
section
variable {X : Cx} {pos : Pos} {a b c : Expr} {es : List Expr} {da db : DE} {r : DA}
theorem tAr.take {β : Type} {W : WX} {K : PySem.W.Frag} {da : DA} {f : List D → Sto → R β} {σ : L2.St} {H : Hp} {Q' : List V → Hp → Prop} {m B : List Addr} {ρ : Env} {S : Sto} {P : β → Sto → List Addr → Hp → Prop} (r : RS K m B H S) (e : REs K m B H ρ σ)
    (h : Post K m B H (fun c x H' => W c x σ H') P ((da ρ S).bind f))
    (k : ∀ d S1 m1 H1 v, Ge m H m1 H1 → RS K m1 B H1 S1 → REs K m1 B H1 ρ σ → RDs K m1 B H1 d v → Post K m1 B H1 (fun c x H' => W c x σ H') P (f d S1) → Q' v H1) : tAr W K da σ H Q' :=
  ⟨m, B, ρ, S, r, e, (Post.bind h).imp fun d S1 m1 H1 g1 r1 p v rv => k d S1 m1 H1 v g1 r1 (e.mono g1.tr) rv p⟩
theorem za_nil : ZA X [] aN := fun W tk => pa_weak pa_nil fun σ H Q ⟨m, B, ρ, S, rs, e, p⟩ => p.now rs [] RDs.nil
theorem za_cons (ha : ZE X a da) (hr : ZA X es r) (hs : starEach (a :: es) X.env = (false, eval a X.env) :: starEach es X.env := by rfl) : ZA X (a :: es) (aC da r) := fun W tk => pa_weak (pa_cons (ha W tk) (hr W tk) hs) fun σ H Q ⟨m, B, ρ, S, rs, e, p⟩ =>
  tE.takeA rs e p fun d S1 m1 H1 v g1 r1 e1 rd p1 => tAr.take r1 e1 p1 fun ds S2 m2 H2 vs g2 r2 e2 rds p2 => p2.now r2 (v :: vs) (RDs.cons (rd.mono g2.tr) rds)
theorem lenA_nil : LenA 0 aN := fun _ _ => rfl
theorem lenA_cons {n : Nat} (h : LenA n r) : LenA (n + 1) (aC da r) := fun ρ S => by
  unfold aC
  cases da ρ S with
  | ok d S1 =>
    simp only [R.bind_ok]
    have := h ρ S1
    cases hr : r ρ S1 with
    | ok ds S2 =>
      rw [hr] at this
      simp only [R.bind_ok, List.length_cons]
      omega
    | exc _ _ _ => trivial
    | bad => trivial
  | exc _ _ _ => trivial
  | bad => trivial
theorem ze_tup {n x1 : Nat} (h : ZA X es r) (hl : LenA n r) (hn : n ≤ 1000 := by decide) : ZE X (.Tuple es x1 pos) (eTup r) := fun W tk => pe_weak (pe_tup (h W tk)) fun σ H Q ⟨m, B, ρ, S, rs, e, p⟩ => by
  have hl := hl ρ S
  unfold eTup at p
  refine ⟨m, B, ρ, S, rs, e, ?_⟩
  cases hr : r ρ S with
  | ok ds S1 =>
    rw [hr] at p hl
    refine fun m1 H1 g1 r1 vs rv => ⟨?_, fun q hq => ?_⟩
    · rw [← rv.len, hl, sizeLine_eq]
      omega
    · obtain ⟨g2, r2⟩ := r1.new (u := .tup vs) hq
      refine (show Post X.K m B H _ _ (R.ok (D.tup ds) S1) from p) m1 _ (g1.trans g2) r2 _ ?_
      unfold RD
      exact ⟨q, vs, rfl, .inl ⟨r1.notin hq, r1.notB hq, .inl upd_same⟩, RDs.mono g2.tr _ _ rv⟩
  | exc c d S1 => rw [hr] at p; exact p
  | bad => rw [hr] at p; exact p
theorem Ge.new_was {m m' : List Addr} {H H' : Hp} {p : Addr} (g : Ge m H m' H') (hm : p ∉ m') (h : H' p = none) : H p = none := by
  cases hh : H p with
  | none => rfl
  | some o =>
    have hn : p ∉ m := fun q => hm (by obtain ⟨⟨l, e⟩, _⟩ := g; rw [e]; exact List.mem_append_left _ q)
    have := (g.keep p o hn hh).2
    rw [h] at this
    cases this
theorem zl_lst {n : Nat} (h : ZA X es r) (hl : LenA n r) (hn : n ≤ 1000 := by decide) : ZL X (.List es pos) r := fun W tk => pe_weak (pe_lst (h W tk)) fun σ H Q ⟨m, B, ρ, S, rs, e, p⟩ => by
  have hl := hl ρ S
  refine ⟨m, B, ρ, S, rs, e, ?_⟩
  cases hr : r ρ S with
  | ok ds S1 =>
    rw [hr] at p hl
    refine fun m1 H1 g1 r1 vs rv => ⟨?_, fun q hq => ?_⟩
    · rw [← rv.len, hl, sizeLine_eq]
      omega
    · exact p m1 _ q vs (g1.trans (r1.new hq).1) (r1.ban hq) (r1.notB hq) (g1.new_was (r1.notin hq) hq) upd_same (RDs.mono (Tr.ban hq) _ _ rv)
  | exc c d S1 => rw [hr] at p; exact p
  | bad => rw [hr] at p; exact p
theorem tl_lv {W : WX} {K : PySem.W.Frag} {σ : L2.St} {H : Hp} {Q : VK} (h : tE W K (eLV r) σ H Q) : tL W K r σ H Q := by
  obtain ⟨m, B, ρ, S, rs, e, p⟩ := h
  refine ⟨m, B, ρ, S, rs, e, ?_⟩
  unfold eLV at p
  cases hr : r ρ S with
  | ok ds S1 =>
    rw [hr] at p
    refine fun m1 H2 q vs g1 r2 hB h0 h2 rv => p m1 H2 g1 r2.free _ ?_
    unfold RD
    exact ⟨q, vs, rfl, ⟨fun hm => r2.dis q hm (List.mem_cons_self ..), hB, h2⟩, RDs.mono Tr.free _ _ rv⟩
  | exc c d S1 => rw [hr] at p; exact p
  | bad => rw [hr] at p; exact p
theorem tl_ln {W : WX} {K : PySem.W.Frag} {σ : L2.St} {H : Hp} {Q : VK} (h : tE W K (eLN r) σ H Q) : tL W K r σ H Q := by
  obtain ⟨m, B, ρ, S, rs, e, p⟩ := h
  refine ⟨m, B, ρ, S, rs, e, ?_⟩
  unfold eLN at p
  cases hr : r ρ S with
  | ok ds S1 =>
    rw [hr] at p
    refine fun m1 H2 q vs g1 r2 hB h0 h2 rv => p (m1 ++ [q]) H2 (g1.own h0) (r2.own hB ⟨vs, h2, RDs.mono Tr.own _ _ rv⟩) _ ?_
    unfold RD
    exact ⟨q, rfl, by rw [List.getElem?_append_right (by rw [r2.len]; exact Nat.le_refl _), r2.len]; simp⟩
  | exc c d S1 => rw [hr] at p; exact p
  | bad => rw [hr] at p; exact p
theorem ze_lv (h : ZL X a r) : ZE X a (eLV r) := fun W tk => pe_weak (h W tk) fun σ H Q p => tl_lv p
theorem ze_ln (h : ZL X a r) : ZE X a (eLN r) := fun W tk => pe_weak (h W tk) fun σ H Q p => tl_ln p
end

/-! ### an item by its place -/
def fIx (d e : D) (S : Sto) : R D := match d, e with
  | .tup ds, .int i => match atI ds i with
    | some x => .ok x S
    | none => .bad
  | .lst ds, .int i => match atI ds i with
    | some x => .ok x S
    | none => .bad
  | .scr ds, .int i => match atI ds i with
    | some x => .ok x S
    | none => .bad
  | .ref n, .int i => match S[n]? with
    | some (.lst ds) => match atI ds i with
      | some x => .ok x S
      | none => .bad
    | _ => .bad
  | .str s, .int i => if s.length ≤ 16777216 then match atI s.cps.toList i with
      | some c => .ok (.str ⟨#[c]⟩) S
      | none => .bad else .bad
  | _, _ => .bad
theorem RDs.atI {K : PySem.W.Frag} {m B : List Addr} {H : Hp} {ds : List D} {vs : List V} {i : Int} {d : D} (h : RDs K m B H ds vs) (e : L2.atI ds i = some d) : ∃ v, L2.atI vs i = some v ∧ RD K m B H d v := by
  unfold L2.atI at e ⊢
  rw [← h.len]
  cases hj : ixN ds.length i with
  | none => rw [hj] at e; cases e
  | some j =>
    rw [hj] at e
    exact h.get e
theorem okIx {K : PySem.W.Frag} : OkOp K (rIx K) fIx := by
  intro m B H S d e x y W Q rs rd re p
  cases e with
  | int i =>
    have hy : y = .int i := by unfold RD at re; exact re
    subst hy
    cases d with
    | tup ds =>
      unfold RD at rd
      obtain ⟨a, vs, rfl, f, r⟩ := rd
      simp only [fIx] at p
      cases h : atI ds i with
      | none => rw [h] at p; exact p.elim
      | some z =>
        rw [h] at p
        obtain ⟨v, hv, rv⟩ := r.atI h
        exact .inr (.inl ⟨a, vs, i, v, rfl, rfl, f.sq, hv, p.now rs v rv⟩)
    | lst ds =>
      unfold RD at rd
      obtain ⟨a, vs, rfl, f, r⟩ := rd
      simp only [fIx] at p
      cases h : atI ds i with
      | none => rw [h] at p; exact p.elim
      | some z =>
        rw [h] at p
        obtain ⟨v, hv, rv⟩ := r.atI h
        exact .inl ⟨a, vs, i, v, rfl, rfl, f.sq, hv, p.now rs v rv⟩
    | scr ds =>
      unfold RD at rd
      obtain ⟨a, vs, rfl, f, r⟩ := rd
      simp only [fIx] at p
      cases h : atI ds i with
      | none => rw [h] at p; exact p.elim
      | some z =>
        rw [h] at p
        obtain ⟨v, hv, rv⟩ := r.atI h
        exact .inl ⟨a, vs, i, v, rfl, rfl, f.sq, hv, p.now rs v rv⟩
    | ref n =>
      unfold RD at rd
      obtain ⟨a, rfl, q⟩ := rd
      simp only [fIx] at p
      split at p
      · rename_i ds hn
        obtain ⟨vs, ea, r⟩ := rs.ob n a _ q hn
        cases h : atI ds i with
        | none => rw [h] at p; exact p.elim
        | some z =>
          rw [h] at p
          obtain ⟨v, hv, rv⟩ := r.atI h
          exact .inl ⟨a, vs, i, v, rfl, rfl, SqL.of ea, hv, p.now rs v rv⟩
      · exact p.elim
    | str s =>
      unfold RD at rd
      subst rd
      simp only [fIx] at p
      split at p
      · rename_i hz
        cases h : atI s.cps.toList i with
        | none => rw [h] at p; exact p.elim
        | some z =>
          rw [h] at p
          exact .inr (.inr ⟨s, i, z, rfl, rfl, by rw [sizeLine_eq]; exact hz, h, p.now rs _ (RDst _)⟩)
      · exact p.elim
    | _ => exact p.elim
  | _ => cases d <;> exact p.elim
section
variable {X : Cx} {pos : Pos} {a b : Expr} {da db : DE}
theorem ze_sub_ix (ha : ZE X a da) (hb : ZE X b db) (hs : PlainIx b := by exact fun _ _ => rfl) : ZE X (.Subscript a b pos) (e2 fIx da db) := ze_ix ix_seq okIx ha hb hs
end

/-! ### built-ins, called -/
def eCall (f : List D → Sto → R D) (r : DA) : DE := fun ρ S => (r ρ S).bind f
def OkCall (K : PySem.W.Frag) (r : List V → Hp → VK → Prop) (f : List D → Sto → R D) : Prop := ∀ m B H S ds vs (W : Value → Option Addr → Hp → Prop) (Q : VK), RS K m B H S → RDs K m B H ds vs → Post K m B H W (fun d _ m' H' => ∀ v, RD K m' B H' d v → Q v H') (f ds S) → r vs H Q
section
variable {X : Cx} {pos p0 : Pos} {e : Expr} {es : List Expr} {x : Str} {r : List V → Hp → VK → Prop} {f : List D → Sto → R D} {t : DA}
theorem ze_callB {id : String} (hc : CallR X (.builtin id) r) (h : OkCall X.K r f) (hm : X.mg x = none) (ha : ZA X (e :: es) t) (hg : Gl X x := by rfl) (hv : bootBuiltins x = some (.builtin id) := by decide +kernel) (hn : x ≠ "__name__" := by decide) (hdb : (x == ("__debug__" : Str)) = false := by decide)
    (he : starEach (e :: es) X.env = (false, eval e X.env) :: starEach es X.env := by rfl) (hpl : (backTo pos (starEach es X.env)).any (·.1) = false := by rfl) : ZE X (.Call (.Name x p0) (e :: es) [] pos) (eCall f t) := fun W tk =>
  pe_weak (pe_callB hc hg hm hv (ha W tk) hn hdb he hpl) fun σ H Q ⟨m, B, ρ, S, rs, e, p⟩ => tAr.take rs e p fun ds S1 m1 H1 vs g1 r1 e1 rds p1 => h m1 B H1 S1 ds vs _ Q r1 rds p1
theorem ze_callTy {T : String} (hc : CallR X (.type T) r) (h : OkCall X.K r f) (hm : X.mg x = none) (ha : ZA X (e :: es) t) (hg : Gl X x := by rfl) (hv : bootBuiltins x = some (.type T) := by decide +kernel) (hn : x ≠ "__name__" := by decide) (hdb : (x == ("__debug__" : Str)) = false := by decide)
    (he : starEach (e :: es) X.env = (false, eval e X.env) :: starEach es X.env := by rfl) (hpl : (backTo pos (starEach es X.env)).any (·.1) = false := by rfl) : ZE X (.Call (.Name x p0) (e :: es) [] pos) (eCall f t) := fun W tk =>
  pe_weak (pe_callTy hc hg hm hv (ha W tk) hn hdb he hpl) fun σ H Q ⟨m, B, ρ, S, rs, e, p⟩ => tAr.take rs e p fun ds S1 m1 H1 vs g1 r1 e1 rds p1 => h m1 B H1 S1 ds vs _ Q r1 rds p1
end
theorem RDs.one {K : PySem.W.Frag} {m B : List Addr} {H : Hp} {d : D} {vs : List V} (h : RDs K m B H [d] vs) : ∃ v, vs = [v] ∧ RD K m B H d v := by
  unfold RDs at h
  obtain ⟨x, r, rfl, h1, h2⟩ := h
  unfold RDs at h2
  subst h2
  exact ⟨x, rfl, h1⟩
theorem RDs.two {K : PySem.W.Frag} {m B : List Addr} {H : Hp} {d e : D} {vs : List V} (h : RDs K m B H [d, e] vs) : ∃ v w, vs = [v, w] ∧ RD K m B H d v ∧ RD K m B H e w := by
  unfold RDs at h
  obtain ⟨x, r, rfl, h1, h2⟩ := h
  obtain ⟨w, rfl, h3⟩ := h2.one
  exact ⟨x, w, rfl, h1, h3⟩
/-- the items of a list or a tuple -/
def seqOf (S : Sto) : D → Option (List D)
  | .tup ds => some ds
  | .lst ds => some ds
  | .scr ds => some ds
  | .ref n => match S[n]? with
    | some (.lst ds) => some ds
    | _ => none
  | _ => none
theorem seqOf_ok {K : PySem.W.Frag} {m B : List Addr} {H : Hp} {S : Sto} (rs : RS K m B H S) : ∀ {d : D} {v : V} {ds : List D}, RD K m B H d v → seqOf S d = some ds → ∃ a vs, v = .ref a ∧ (SqL K H a vs ∨ SqT K H a vs) ∧ RDs K m B H ds vs
  | .tup ds, _, _, h, e => by unfold RD at h; obtain ⟨a, vs, rfl, f, r⟩ := h; simp only [seqOf] at e; cases e; exact ⟨a, vs, rfl, .inr f.sq, r⟩
  | .lst ds, _, _, h, e => by unfold RD at h; obtain ⟨a, vs, rfl, f, r⟩ := h; simp only [seqOf] at e; cases e; exact ⟨a, vs, rfl, .inl f.sq, r⟩
  | .scr ds, _, _, h, e => by unfold RD at h; obtain ⟨a, vs, rfl, f, r⟩ := h; simp only [seqOf] at e; cases e; exact ⟨a, vs, rfl, .inl f.sq, r⟩
  | .ref n, _, _, h, e => by
    unfold RD at h
    obtain ⟨a, rfl, q⟩ := h
    simp only [seqOf] at e
    split at e
    · rename_i ds hn
      cases e
      obtain ⟨vs, ea, rv⟩ := rs.ob n a _ q hn
      exact ⟨a, vs, rfl, .inl (SqL.of ea), rv⟩
    · cases e
  | .non, _, _, _, e => by simp only [seqOf] at e; cases e
  | .bl _, _, _, _, e => by simp only [seqOf] at e; cases e
  | .int _, _, _, _, e => by simp only [seqOf] at e; cases e
  | .str _, _, _, _, e => by simp only [seqOf] at e; cases e
  | .adr _, _, _, _, e => by simp only [seqOf] at e; cases e
  | .ty _, _, _, _, e => by simp only [seqOf] at e; cases e
/-- a list, by its items -/
def lstOf (S : Sto) : D → Option (List D)
  | .lst ds => some ds
  | .scr ds => some ds
  | .ref n => match S[n]? with
    | some (.lst ds) => some ds
    | _ => none
  | _ => none
theorem lstOf_ok {K : PySem.W.Frag} {m B : List Addr} {H : Hp} {S : Sto} (rs : RS K m B H S) : ∀ {d : D} {v : V} {ds : List D}, RD K m B H d v → lstOf S d = some ds → ∃ a vs, v = .ref a ∧ SqL K H a vs ∧ RDs K m B H ds vs
  | .lst ds, _, _, h, e => by unfold RD at h; obtain ⟨a, vs, rfl, f, r⟩ := h; simp only [lstOf] at e; cases e; exact ⟨a, vs, rfl, f.sq, r⟩
  | .scr ds, _, _, h, e => by unfold RD at h; obtain ⟨a, vs, rfl, f, r⟩ := h; simp only [lstOf] at e; cases e; exact ⟨a, vs, rfl, f.sq, r⟩
  | .ref n, _, _, h, e => by
    unfold RD at h
    obtain ⟨a, rfl, q⟩ := h
    simp only [lstOf] at e
    split at e
    · rename_i ds hn
      cases e
      obtain ⟨vs, ea, rv⟩ := rs.ob n a _ q hn
      exact ⟨a, vs, rfl, SqL.of ea, rv⟩
    · cases e
  | .tup _, _, _, _, e => by simp only [lstOf] at e; cases e
  | .non, _, _, _, e => by simp only [lstOf] at e; cases e
  | .bl _, _, _, _, e => by simp only [lstOf] at e; cases e
  | .int _, _, _, _, e => by simp only [lstOf] at e; cases e
  | .str _, _, _, _, e => by simp only [lstOf] at e; cases e
  | .adr _, _, _, _, e => by simp only [lstOf] at e; cases e
  | .ty _, _, _, _, e => by simp only [lstOf] at e; cases e
def fLen : List D → Sto → R D
  | [.str s], S => if s.length ≤ 16777216 then .ok (.int s.length) S else .bad
  | [d], S => match seqOf S d with
    | some ds => .ok (.int ds.length) S
    | none => .bad
  | _, _ => .bad
theorem okLen {K : PySem.W.Frag} : OkCall K (fun xs H Q => (∃ z, xs = [.str z] ∧ z.length ≤ sizeLine ∧ Q (.int z.length) H) ∨ ∃ p ys, xs = [.ref p] ∧ (SqL K H p ys ∨ SqT K H p ys) ∧ Q (.int ys.length) H) fLen := by
  intro m B H S ds vs W Q rs rds p
  match ds with
  | [] => exact p.elim
  | d :: e :: r => cases d <;> exact p.elim
  | [d] =>
    obtain ⟨v, rfl, rv⟩ := rds.one
    by_cases hs : ∃ s, d = .str s
    · obtain ⟨s, rfl⟩ := hs
      unfold RD at rv
      subst rv
      have p : Post K m B H W _ (if s.length ≤ 16777216 then R.ok (D.int s.length) S else .bad) := p
      by_cases hz : s.length ≤ 16777216
      · rw [if_pos hz] at p
        exact .inl ⟨s, rfl, by rw [sizeLine_eq]; exact hz, p.now rs _ (RDi _)⟩
      · rw [if_neg hz] at p
        exact p.elim
    · have p : Post K m B H W (fun d _ m' H' => ∀ v, RD K m' B H' d v → Q v H') (match seqOf S d with
        | some ds => R.ok (D.int ds.length) S
        | none => .bad) := by
        cases d <;> first | exact p | exact absurd ⟨_, rfl⟩ hs
      cases h : seqOf S d with
      | none => rw [h] at p; exact p.elim
      | some ds =>
        rw [h] at p
        obtain ⟨a, vs, rfl, sq, r⟩ := seqOf_ok rs rv h
        exact .inr ⟨a, vs, rfl, sq, by rw [← r.len]; exact p.now rs _ (RDi _)⟩
def fAbs : List D → Sto → R D
  | [.int i], S => .ok (.int (if i < 0 then -i else i)) S
  | _, _ => .bad
theorem okAbs {K : PySem.W.Frag} : OkCall K (fun xs H Q => ∃ i, xs = [.int i] ∧ Q (.int (if i < 0 then -i else i)) H) fAbs := by
  intro m B H S ds vs W Q rs rds p
  match ds with
  | [] => exact p.elim
  | d :: e :: r => cases d <;> exact p.elim
  | [d] =>
    obtain ⟨v, rfl, rv⟩ := rds.one
    cases d <;> try exact p.elim
    rename_i i
    unfold RD at rv
    subst rv
    exact ⟨i, rfl, p.now rs _ (RDi _)⟩
def fInt : List D → Sto → R D
  | [.int i], S => .ok (.int i) S
  | [.bl b], S => .ok (.int (if b then 1 else 0)) S
  | _, _ => .bad
theorem okInt {K : PySem.W.Frag} : OkCall K (fun xs H Q => (∃ i, xs = [.int i] ∧ Q (.int i) H) ∨ ∃ k, xs = [.bl k] ∧ Q (.int (if k then 1 else 0)) H) fInt := by
  intro m B H S ds vs W Q rs rds p
  match ds with
  | [] => exact p.elim
  | d :: e :: r => cases d <;> exact p.elim
  | [d] =>
    obtain ⟨v, rfl, rv⟩ := rds.one
    cases d <;> try exact p.elim
    · rename_i i
      unfold RD at rv
      subst rv
      exact .inr ⟨i, rfl, p.now rs _ (RDi _)⟩
    · rename_i i
      unfold RD at rv
      subst rv
      exact .inl ⟨i, rfl, p.now rs _ (RDi _)⟩
/-- tuple(..) of a list | of a tuple -/
def fTuple : List D → Sto → R D
  | [d], S => match seqOf S d with
    | some ds => .ok (.tup ds) S
    | none => .bad
  | _, _ => .bad
theorem okTuple {K : PySem.W.Frag} : OkCall K (fun xs H Q => ∃ p ys, xs = [.ref p] ∧ ((SqL K H p ys ∧ ∀ l, H l = none → Q (.ref l) (upd H l (.tup ys))) ∨ (SqT K H p ys ∧ Q (.ref p) H))) fTuple := by
  intro m B H S ds vs W Q rs rds p
  match ds with
  | [] => exact p.elim
  | d :: e :: r => exact p.elim
  | [d] =>
    obtain ⟨v, rfl, rv⟩ := rds.one
    have p : Post K m B H W _ (match seqOf S d with
        | some ds => R.ok (D.tup ds) S
        | none => .bad) := p
    have fin : ∀ {a : Addr} {ds : List D} {vs : List V}, SqL K H a vs → RDs K m B H ds vs → Post K m B H W (fun d _ m' H' => ∀ v, RD K m' B H' d v → Q v H') (.ok (.tup ds) S) → ∀ l, H l = none → Q (.ref l) (upd H l (.tup vs)) := fun {a ds vs} sq r p l hl => by
      obtain ⟨g2, r2⟩ := rs.new (u := .tup vs) hl
      refine p m _ g2 r2 _ ?_
      unfold RD
      exact ⟨l, vs, rfl, .inl ⟨rs.notin hl, rs.notB hl, .inl upd_same⟩, RDs.mono g2.tr _ _ r⟩
    cases d with
    | tup ds =>
      have rv' := rv
      unfold RD at rv
      obtain ⟨a, vs, rfl, f, r⟩ := rv
      exact ⟨a, vs, rfl, .inr ⟨f.sq, p.now rs _ rv'⟩⟩
    | lst ds =>
      unfold RD at rv
      obtain ⟨a, vs, rfl, f, r⟩ := rv
      exact ⟨a, vs, rfl, .inl ⟨f.sq, fin f.sq r p⟩⟩
    | scr ds =>
      unfold RD at rv
      obtain ⟨a, vs, rfl, f, r⟩ := rv
      exact ⟨a, vs, rfl, .inl ⟨f.sq, fin f.sq r p⟩⟩
    | ref n =>
      unfold RD at rv
      obtain ⟨a, rfl, q⟩ := rv
      simp only [seqOf] at p
      cases h : S[n]? with
      | none => rw [h] at p; exact p.elim
      | some o =>
        rw [h] at p
        cases o with
        | lst ds =>
          obtain ⟨vs, ea, r⟩ := rs.ob n a _ q h
          exact ⟨a, vs, rfl, .inl ⟨SqL.of ea, fin (SqL.of ea) r p⟩⟩
        | ins C fs => exact p.elim
        | dct kvs => exact p.elim
        | dcT kvs => exact p.elim
        | iset S n => exact p.elim
    | _ => exact p.elim
/-- all(..), any(..) of truth values -/
def bools : List D → Option (List Bool)
  | [] => some []
  | .bl b :: r => (bools r).map fun bs => b :: bs
  | _ :: _ => none
theorem bools_ok {K : PySem.W.Frag} {m B : List Addr} {H : Hp} : ∀ {ds : List D} {vs : List V} {bs : List Bool}, RDs K m B H ds vs → bools ds = some bs → vs = bs.map V.bl
  | [], _, _, h, e => by unfold RDs at h; simp only [bools] at e; cases e; exact h
  | d :: ds, _, _, h, e => by
    unfold RDs at h
    obtain ⟨x, r, rfl, h1, h2⟩ := h
    cases d with
    | bl b =>
      unfold RD at h1
      subst h1
      simp only [bools, Option.map_eq_some_iff] at e
      obtain ⟨bs, e1, rfl⟩ := e
      rw [bools_ok h2 e1]
      rfl
    | _ => simp only [bools] at e; cases e
def fAll : List D → Sto → R D
  | [d], S => match (lstOf S d).bind bools with
    | some bs => .ok (.bl (bs.all id)) S
    | none => .bad
  | _, _ => .bad
def fAny : List D → Sto → R D
  | [d], S => match (lstOf S d).bind bools with
    | some bs => .ok (.bl (bs.any id)) S
    | none => .bad
  | _, _ => .bad
theorem okAll {K : PySem.W.Frag} : OkCall K (rAll K) fAll := by
  intro m B H S ds vs W Q rs rds p
  match ds with
  | [] => exact p.elim
  | d :: e :: r => exact p.elim
  | [d] =>
    obtain ⟨v, rfl, rv⟩ := rds.one
    simp only [fAll] at p
    cases h : (lstOf S d).bind bools with
    | none => rw [h] at p; exact p.elim
    | some bs =>
      rw [h] at p
      obtain ⟨ds, h1, h2⟩ := Option.bind_eq_some_iff.mp h
      obtain ⟨a, vs, rfl, sq, r⟩ := lstOf_ok rs rv h1
      rw [bools_ok r h2] at sq
      exact ⟨a, bs, rfl, sq, p.now rs _ (RDb _)⟩
theorem okAny {K : PySem.W.Frag} : OkCall K (rAny K) fAny := by
  intro m B H S ds vs W Q rs rds p
  match ds with
  | [] => exact p.elim
  | d :: e :: r => exact p.elim
  | [d] =>
    obtain ⟨v, rfl, rv⟩ := rds.one
    simp only [fAny] at p
    cases h : (lstOf S d).bind bools with
    | none => rw [h] at p; exact p.elim
    | some bs =>
      rw [h] at p
      obtain ⟨ds, h1, h2⟩ := Option.bind_eq_some_iff.mp h
      obtain ⟨a, vs, rfl, sq, r⟩ := lstOf_ok rs rv h1
      rw [bools_ok r h2] at sq
      exact ⟨a, bs, rfl, sq, p.now rs _ (RDb _)⟩
section
variable {X : Cx} {pos p0 : Pos} {e : Expr} {t : DA}
theorem ze_len (hm : X.mg "len" = none) (ha : ZA X [e] t) (hg : Gl X "len" := by rfl) (he : starEach [e] X.env = (false, eval e X.env) :: starEach [] X.env := by rfl) : ZE X (.Call (.Name "len" p0) [e] [] pos) (eCall fLen t) := ze_callB (call_len_str.or call_len_seq) okLen hm ha hg (he := he)
theorem ze_abs (hm : X.mg "abs" = none) (ha : ZA X [e] t) (hg : Gl X "abs" := by rfl) (he : starEach [e] X.env = (false, eval e X.env) :: starEach [] X.env := by rfl) : ZE X (.Call (.Name "abs" p0) [e] [] pos) (eCall fAbs t) := ze_callB call_abs okAbs hm ha hg (he := he)
theorem ze_int1 (hm : X.mg "int" = none) (ha : ZA X [e] t) (hg : Gl X "int" := by rfl) (he : starEach [e] X.env = (false, eval e X.env) :: starEach [] X.env := by rfl) : ZE X (.Call (.Name "int" p0) [e] [] pos) (eCall fInt t) := ze_callTy call_int1 okInt hm ha hg (he := he)
theorem ze_tuple (hm : X.mg "tuple" = none) (ha : ZA X [e] t) (hg : Gl X "tuple" := by rfl) (he : starEach [e] X.env = (false, eval e X.env) :: starEach [] X.env := by rfl) : ZE X (.Call (.Name "tuple" p0) [e] [] pos) (eCall fTuple t) := ze_callTy call_tuple_of okTuple hm ha hg (he := he)
theorem ze_all (hc : X.calm = true) (hm : X.mg "all" = none) (ha : ZA X [e] t) (hg : Gl X "all" := by rfl) (he : starEach [e] X.env = (false, eval e X.env) :: starEach [] X.env := by rfl) : ZE X (.Call (.Name "all" p0) [e] [] pos) (eCall fAll t) := ze_callB (cr_all hc) okAll hm ha hg (he := he)
theorem ze_any (hc : X.calm = true) (hm : X.mg "any" = none) (ha : ZA X [e] t) (hg : Gl X "any" := by rfl) (he : starEach [e] X.env = (false, eval e X.env) :: starEach [] X.env := by rfl) : ZE X (.Call (.Name "any" p0) [e] [] pos) (eCall fAny t) := ze_callB (cr_any hc) okAny hm ha hg (he := he)
end
end Z
namespace Z
open PySem L2

/-! ### isinstance -/
def tNames : List String := ["NoneType", "bool", "int", "str", "tuple", "list", "dict", "set"]
/-- what the written part says of the own classes at cs -/
structure Kit (K : PySem.W.Frag) (cs : List Addr) : Prop where
  cl : ∀ c ∈ cs, Cls K c
  ca : ∀ c ∈ cs, PySem.W.findIn K (.ref c) "__class__" = some (some (.builtin "object.__class__"))
  cg : PySem.W.specialIn K (.builtin "object.__class__") "__get__" = some (some (.builtin "getset_descriptor.__get__"))
  ct : PySem.W.takesIn K (.builtin "object.__class__") = some true
  cm : ∀ c ∈ cs, PySem.W.mroIn K c (.type "object") = some true
  o2t : ∀ c ∈ cs, ∀ T ∈ tNames, PySem.W.kitOne K (.ref c) (.type T) = some false
  t2o : ∀ C ∈ cs, ∀ T ∈ tNames, PySem.W.kitOne K (.type T) (.ref C) = some false
  o2o : ∀ c ∈ cs, ∀ C ∈ cs, PySem.W.kitOne K (.ref c) (.ref C) = some (decide (c = C))
/-- a value's kind: a built-in type | an own class of those known -/
def tyD (cs : List Addr) (S : Sto) : D → Option (Sum String Addr)
  | .non => some (.inl "NoneType")
  | .bl _ => some (.inl "bool")
  | .int _ => some (.inl "int")
  | .str _ => some (.inl "str")
  | .tup _ => some (.inl "tuple")
  | .lst _ => some (.inl "list")
  | .scr _ => some (.inl "list")
  | .ref n => match S[n]? with
    | some (.lst _) => some (.inl "list")
    | some (.ins c _) => if c ∈ cs then some (.inr c) else none
    | some (.dct _) => some (.inl "dict")
    | some (.dcT _) => some (.inl "dict")
    | some (.iset _ _) => some (.inl "set")
    | none => none
  | _ => none
def kV2 : Sum String Addr → Value
  | .inl T => .type T
  | .inr c => .ref c
theorem tyD_ok {K : PySem.W.Frag} {cs : List Addr} (kit : Kit K cs) {m B : List Addr} {H : Hp} {S : Sto} (rs : RS K m B H S) : ∀ {d : D} {v : V} {t : Sum String Addr}, RD K m B H d v → tyD cs S d = some t → TyX K H v (kV2 t) ∧ (match t with | .inl T => T ∈ tNames | .inr c => c ∈ cs)
  | .non, _, _, h, e => by unfold RD at h; subst h; simp only [tyD] at e; cases e; exact ⟨.base .non, (by decide : "NoneType" ∈ tNames)⟩
  | .bl _, _, _, h, e => by unfold RD at h; subst h; simp only [tyD] at e; cases e; exact ⟨.base (.bl _), (by decide : "bool" ∈ tNames)⟩
  | .int _, _, _, h, e => by unfold RD at h; subst h; simp only [tyD] at e; cases e; exact ⟨.base (.int _), (by decide : "int" ∈ tNames)⟩
  | .str _, _, _, h, e => by unfold RD at h; subst h; simp only [tyD] at e; cases e; exact ⟨.base (.str _), (by decide : "str" ∈ tNames)⟩
  | .tup _, _, _, h, e => by
    unfold RD at h
    obtain ⟨a, vs, rfl, f, r⟩ := h
    simp only [tyD] at e
    cases e
    refine ⟨?_, (by decide : "tuple" ∈ tNames)⟩
    rcases f with ⟨_, _, f | ⟨o, f⟩⟩ | ⟨o, its, n, h1, h2, _⟩
    · exact .base (.tup f)
    · exact .fTuple f
    · exact .kTuple h1 h2
  | .lst _, _, _, h, e => by
    unfold RD at h
    obtain ⟨a, vs, rfl, f, r⟩ := h
    simp only [tyD] at e
    cases e
    exact ⟨.base (.lst f.2.2), (by decide : "list" ∈ tNames)⟩
  | .scr _, _, _, h, e => by
    unfold RD at h
    obtain ⟨a, vs, rfl, f, r⟩ := h
    simp only [tyD] at e
    cases e
    refine ⟨?_, (by decide : "list" ∈ tNames)⟩
    rcases f with ⟨_, _, f | ⟨o, f⟩⟩ | ⟨o, its, n, h1, h2, _⟩
    · exact .base (.lst f)
    · exact .base (.frz f)
    · exact .kList h1 h2
  | .ref n, _, _, h, e => by
    unfold RD at h
    obtain ⟨a, rfl, q⟩ := h
    simp only [tyD] at e
    split at e
    · rename_i ds hn
      cases e
      obtain ⟨vs, ea, rv⟩ := rs.ob n a _ q hn
      exact ⟨.base (.lst ea), (by decide : "list" ∈ tNames)⟩
    · rename_i c fs hn
      split at e
      · rename_i hc
        cases e
        obtain ⟨dx, vs, ea, rv⟩ := rs.ob n a _ q hn
        exact ⟨.base (.ins ea (kit.cl c hc) (kit.ca c hc) kit.cg kit.ct (kit.cm c hc)), hc⟩
      · cases e
    · rename_i kvs hn
      cases e
      obtain ⟨vs, ea, rv⟩ := rs.ob n a _ q hn
      exact ⟨.base (.dK ea), (by decide : "dict" ∈ tNames)⟩
    · rename_i kvs hn
      cases e
      obtain ⟨vs, ea, rv⟩ := rs.ob n a _ q hn
      exact ⟨.base (.dT ea), (by decide : "dict" ∈ tNames)⟩
    · rename_i p k hn
      cases e
      have ea := rs.ob n a _ q hn
      exact ⟨.set ea, (by decide : "set" ∈ tNames)⟩
    · cases e
  | .adr _, _, _, _, e => by simp only [tyD] at e; cases e
  | .ty _, _, _, _, e => by simp only [tyD] at e; cases e
/-- is what is of one kind of another? -/
def isK (cs : List Addr) : Sum String Addr → D → Option Bool
  | .inl a, .ty b => if a ∈ tNames ∧ b ∈ tNames then some (decide (a = b) || (decide (a = "bool") && decide (b = "int"))) else none
  | .inl a, .adr c => if a ∈ tNames ∧ c ∈ cs then some false else none
  | .inr c, .ty b => if c ∈ cs ∧ b ∈ tNames then some false else none
  | .inr c, .adr c' => if c ∈ cs ∧ c' ∈ cs then some (decide (c = c')) else none
  | _, _ => none
theorem kit_names : ∀ a ∈ tNames, ∀ b ∈ tNames, kitB a b = some (decide (a = b) || (decide (a = "bool") && decide (b = "int"))) := by decide +kernel
theorem isK_ok {K : PySem.W.Frag} {cs : List Addr} (kit : Kit K cs) {m B : List Addr} {H : Hp} : ∀ {t : Sum String Addr} {d : D} {v : V} {b : Bool}, RD K m B H d v → isK cs t d = some b → ∃ u, ClsV v u ∧ PySem.W.kitOne K (kV2 t) u = some b
  | .inl a, .ty b, _, _, h, e => by
    unfold RD at h; subst h
    simp only [isK] at e
    split at e
    · rename_i hh
      refine ⟨.type b, .ty b, ?_⟩
      rw [← e]
      exact kit_ty (kit_names a hh.1 b hh.2)
    · cases e
  | .inl a, .adr c, _, _, h, e => by
    unfold RD at h; subst h
    simp only [isK] at e
    split at e
    · rename_i hh
      refine ⟨.ref c, .own c, ?_⟩
      rw [← e]
      exact kit.t2o c hh.2 a hh.1
    · cases e
  | .inr c, .ty b, _, _, h, e => by
    unfold RD at h; subst h
    simp only [isK] at e
    split at e
    · rename_i hh
      refine ⟨.type b, .ty b, ?_⟩
      rw [← e]
      exact kit.o2t c hh.1 b hh.2
    · cases e
  | .inr c, .adr c', _, _, h, e => by
    unfold RD at h; subst h
    simp only [isK] at e
    split at e
    · rename_i hh
      refine ⟨.ref c', .own c', ?_⟩
      rw [← e]
      exact kit.o2o c hh.1 c' hh.2
    · cases e
  | .inl _, .non, _, _, _, e | .inl _, .bl _, _, _, _, e | .inl _, .int _, _, _, _, e | .inl _, .str _, _, _, _, e | .inl _, .tup _, _, _, _, e | .inl _, .lst _, _, _, _, e | .inl _, .scr _, _, _, _, e | .inl _, .ref _, _, _, _, e => by simp only [isK] at e; cases e
  | .inr _, .non, _, _, _, e | .inr _, .bl _, _, _, _, e | .inr _, .int _, _, _, _, e | .inr _, .str _, _, _, _, e | .inr _, .tup _, _, _, _, e | .inr _, .lst _, _, _, _, e | .inr _, .scr _, _, _, _, e | .inr _, .ref _, _, _, _, e => by simp only [isK] at e; cases e
def anyK (cs : List Addr) (t : Sum String Addr) : List D → Option Bool
  | [] => some false
  | d :: r => match isK cs t d with
    | some true => some true
    | some false => anyK cs t r
    | none => none
theorem anyK_ok {K : PySem.W.Frag} {cs : List Addr} (kit : Kit K cs) {m B : List Addr} {H : Hp} {t : Sum String Addr} : ∀ {ds : List D} {vs : List V} {b : Bool}, RDs K m B H ds vs → anyK cs t ds = some b → ∃ us, Vals vs us ∧ (∀ ws, Vals vs ws → PySem.W.kitAny K (kV2 t) ws = some b)
  | [], _, _, h, e => by
    unfold RDs at h; subst h
    simp only [anyK] at e
    cases e
    exact ⟨[], .nil, fun ws w => by cases w; rfl⟩
  | d :: ds, _, b, h, e => by
    unfold RDs at h
    obtain ⟨x, r, rfl, h1, h2⟩ := h
    simp only [anyK] at e
    cases hk : isK cs t d with
    | none => rw [hk] at e; cases e
    | some k =>
      rw [hk] at e
      obtain ⟨u, hu, hku⟩ := isK_ok kit h1 hk
      have xu : ∃ u', RelV x u' := by cases hu with
        | ty n => exact ⟨_, rfl⟩
        | own C => exact ⟨_, rfl⟩
      obtain ⟨u', ru'⟩ := xu
      have hw : ∀ w, RelV x w → w = u := fun w rw => ClsV.eq hu rw
      cases k with
      | true =>
        cases e
        have rest : ∀ {ds : List D} {vs : List V}, RDs K m B H ds vs → ∃ us, Vals vs us := by
          intro ds
          induction ds with
          | nil => intro vs h; unfold RDs at h; subst h; exact ⟨[], .nil⟩
          | cons d ds ih =>
            intro vs h
            unfold RDs at h
            obtain ⟨x, r, rfl, g1, g2⟩ := h
            obtain ⟨us, hus⟩ := ih g2
            have : ∃ w, RelV x w := by
              cases x with
              | int i => exact ⟨.int i 0, 0, rfl⟩
              | str i => exact ⟨.str i 0, 0, rfl⟩
              | byt i => exact ⟨.bytes i 0, 0, rfl⟩
              | flt i => exact ⟨.float i 0, 0, rfl⟩
              | _ => exact ⟨_, rfl⟩
            obtain ⟨w, hw⟩ := this
            exact ⟨w :: us, .cons hw hus⟩
        obtain ⟨us, hus⟩ := rest h2
        refine ⟨u' :: us, .cons ru' hus, fun ws hws => ?_⟩
        cases hws with
        | cons r1 r2 =>
          rw [hw _ r1]
          unfold PySem.W.kitAny
          rw [hku]
      | false =>
        obtain ⟨us, hus, hall⟩ := anyK_ok kit h2 e
        refine ⟨u' :: us, .cons ru' hus, fun ws hws => ?_⟩
        cases hws with
        | cons r1 r2 =>
          rw [hw _ r1]
          unfold PySem.W.kitAny
          rw [hku]
          exact hall _ r2
def fIsi (cs : List Addr) : List D → Sto → R D
  | [d, .tup ts], S => rB ((tyD cs S d).bind fun t => anyK cs t ts) S
  | [d, c], S => rB ((tyD cs S d).bind fun t => isK cs t c) S
  | _, _ => .bad
/-- isinstance(x, a tuple of classes) -/
def rIsiQ (K : PySem.W.Frag) : List V → Hp → VK → Prop := fun xs H Q => ∃ (x : V) (tp : Addr) (cs : List V) (t : Value) (b : Bool), xs = [x, .ref tp] ∧ SqT K H tp cs ∧ TyX K H x t ∧ (∀ ws, Vals cs ws → PySem.W.kitAny K t ws = some b) ∧ Q (.bl b) H
theorem call_isiQ {X : Cx} : CallR X (.builtin "isinstance") (rIsiQ X.K) := by
  intro pins s σ H xs us Q I r h
  obtain ⟨x, tp, cs, t, b, rfl, hT, ty, hk, q⟩ := h
  obtain ⟨u1, u2, rfl, r1, r2⟩ := vals2 r
  cases (show u2 = Value.ref tp from r2)
  obtain ⟨P, Zk, p, hx⟩ := kit_of I r1 ty
  obtain ⟨its, rv, ⟨o, h1, h2, n, h3⟩, _⟩ := I.tuple hT
  obtain ⟨oc, od, dt, sl⟩ := o
  simp only at h2 h3
  subst h2 h3
  exact PySem.W.kia_tup Zk I.kIn p h1 (hk _ rv) hx fun tk => ⟨.bl b, H, I.tok tk, rfl, q⟩
theorem okIsi {K : PySem.W.Frag} {cs : List Addr} (kit : Kit K cs) : OkCall K (fun xs H Q => rIsi K xs H Q ∨ rIsiQ K xs H Q) (fIsi cs) := by
  intro m B H S ds vs W Q rs rds p
  match ds, rds, p with
  | [], _, p => exact p.elim
  | [_], _, p => exact p.elim
  | a :: b :: c :: r, _, p => exact (show False by cases b <;> exact p).elim
  | [d, c], rds, p =>
    obtain ⟨v, w, rfl, rv, rw⟩ := rds.two
    by_cases ht : ∃ ts, c = .tup ts
    · obtain ⟨ts, rfl⟩ := ht
      have p : Post K m B H W (fun d _ m' H' => ∀ v, RD K m' B H' d v → Q v H') (rB ((tyD cs S d).bind fun t => anyK cs t ts) S) := p
      cases h : (tyD cs S d).bind fun t => anyK cs t ts with
      | none => rw [h] at p; exact p.elim
      | some b =>
        rw [h] at p
        obtain ⟨t, h1, h2⟩ := Option.bind_eq_some_iff.mp h
        unfold RD at rw
        obtain ⟨a, us, rfl, f, r⟩ := rw
        obtain ⟨_, _, hall⟩ := anyK_ok kit r h2
        exact .inr ⟨v, a, us, _, b, rfl, f.sq, (tyD_ok kit rs rv h1).1, hall, p.now rs _ (RDb _)⟩
    · have p : Post K m B H W (fun d _ m' H' => ∀ v, RD K m' B H' d v → Q v H') (rB ((tyD cs S d).bind fun t => isK cs t c) S) := by
        cases c <;> first | exact p | exact absurd ⟨_, rfl⟩ ht
      cases h : (tyD cs S d).bind fun t => isK cs t c with
      | none => rw [h] at p; exact p.elim
      | some b =>
        rw [h] at p
        obtain ⟨t, h1, h2⟩ := Option.bind_eq_some_iff.mp h
        obtain ⟨u, hu, hk⟩ := isK_ok kit rw h2
        exact .inl ⟨v, w, _, u, b, rfl, hu, (tyD_ok kit rs rv h1).1, hk, p.now rs _ (RDb _)⟩
section
variable {X : Cx} {pos p0 : Pos} {e f : Expr} {t : DA}
theorem ze_isi {cs : List Addr} (kit : Kit X.K cs) (hm : X.mg "isinstance" = none) (ha : ZA X [e, f] t) (hg : Gl X "isinstance" := by rfl) (he : starEach [e, f] X.env = (false, eval e X.env) :: starEach [f] X.env := by rfl) (hpl : (backTo pos (starEach [f] X.env)).any (·.1) = false := by rfl) :
    ZE X (.Call (.Name "isinstance" p0) [e, f] [] pos) (eCall (fIsi cs) t) := ze_callB (call_isi.or call_isiQ) (okIsi kit) hm ha hg (he := he) (hpl := hpl)
/-- the name of a built-in type, as a value -/
theorem ze_ty {x : Str} {n : String} (hm : X.mg x = none) (hv : bootBuiltins x = some (.type n) := by decide +kernel) (hg : Gl X x := by rfl) (hn : x ≠ "__name__" := by decide) (hd : (x == ("__debug__" : Str)) = false := by decide) : ZE X (.Name x pos) (eC (.ty n)) :=
  ze_c (pe_bltn (v := .ty n) hg hm hv rfl hn hd) fun _ _ _ => RDt n
end

/-! ### attributes -/
def eFld (cs : List Addr) (f : Str) (a : DE) : DE := e1 (fun d S => match d with
  | .ref n => match S[n]? with
    | some (.ins c fs) => if c ∈ cs then match fs.lookup f with
      | some x => .ok x S
      | none => .bad else .bad
    | _ => .bad
  | _ => .bad) a
theorem RFs.look {K : PySem.W.Frag} {m B : List Addr} {H : Hp} {f : Str} : ∀ {fs : List (Str × D)} {vs : List (Str × V)} {d : D}, RFs K m B H fs vs → fs.lookup f = some d → ∃ v, vs.lookup f = some v ∧ RD K m B H d v
  | [], _, _, _, e => by cases e
  | p :: fs, _, d, ⟨x, r, e1, h1, h2⟩, e => by
    subst e1
    obtain ⟨g, y⟩ := p
    simp only [List.lookup] at e ⊢
    cases hg : f == g with
    | true =>
      rw [hg] at e
      cases e
      exact ⟨x, rfl, h1⟩
    | false =>
      rw [hg] at e
      exact RFs.look h2 e
theorem RFs.lookN {K : PySem.W.Frag} {m B : List Addr} {H : Hp} {f : Str} : ∀ {fs : List (Str × D)} {vs : List (Str × V)}, RFs K m B H fs vs → fs.lookup f = none → vs.lookup f = none
  | [], _, h, _ => by
    have h' : _ = _ := h
    rw [h']
    rfl
  | p :: fs, _, ⟨x, r, e1, h1, h2⟩, e => by
    subst e1
    obtain ⟨g, y⟩ := p
    simp only [List.lookup] at e ⊢
    cases hg : f == g with
    | true => rw [hg] at e; cases e
    | false =>
      rw [hg] at e
      exact RFs.lookN h2 e
/-- the attributes' names that stand in no class -/
def NoAtt (K : PySem.W.Frag) (cs : List Addr) (f : Str) : Prop := ∀ c ∈ cs, Cls K c ∧ NoAttr K c f
section
variable {X : Cx} {pos : Pos} {e : Expr} {de : DE}
theorem ze_fld {cs : List Addr} {f : Str} (hc : NoAtt X.K cs f) (he : ZE X e de) (hb : attributeBase e f X.env (eval e X.env) = eval e X.env := by rfl) : ZE X (.Attribute e f pos) (eFld cs f de) := fun W tk => pe_weak (pe_fld (he W tk) hb) fun σ H Q ⟨m, B, ρ, S, rs, e, p⟩ =>
  tE.takeA rs e p fun d S1 m1 H1 v g1 r1 e1 rd p1 => by
    cases d <;> try exact p1.elim
    rename_i n
    unfold RD at rd
    obtain ⟨a, rfl, q⟩ := rd
    simp only at p1
    split at p1
    · rename_i c fs hn
      split at p1
      · rename_i hcc
        cases hl : fs.lookup f with
        | none => rw [hl] at p1; exact p1.elim
        | some x =>
          rw [hl] at p1
          obtain ⟨dx, vs, ea, rf⟩ := r1.ob n a _ q hn
          obtain ⟨w, hw, rw⟩ := rf.look hl
          exact ⟨a, c, dx, vs, w, rfl, ea, (hc c hcc).1, (hc c hcc).2, hw, p1.now r1 w rw⟩
      · exact p1.elim
    · exact p1.elim
end

/-! ### the promise of a def -/
/-- F: what the def comes to on its arguments and the store -/
def spI (K : PySem.W.Frag) (n : Nat) (F : List D → Sto → R D) : Sp := fun vs H Q E => ∃ m B ds S, RS K m B H S ∧ RDs K m B H ds vs ∧ ds.length = n ∧ Post K m B H E (fun d _ m' H' => ∀ v, RD K m' B H' d v → Q v H') (F ds S)
theorem spI_len {K : PySem.W.Frag} {n : Nat} {F : List D → Sto → R D} {vs : List V} {H : Hp} {Q : VK} {E : XK} (h : spI K n F vs H Q E) : vs.length = n := by
  obtain ⟨m, B, ds, S, rs, rd, hl, _⟩ := h
  rw [← rd.len]
  exact hl
/-- f(..) with the defaults dd behind -/
def eFn (n : Nat) (F : List D → Sto → R D) (dd : List D) (r : DA) : DE := fun ρ S => (r ρ S).bind fun ds S1 => if (ds ++ dd).length = n then F (ds ++ dd) S1 else .bad
/-- what the written part holds of a def -/
structure Fd (X : Cx) (x : Str) (k n : Nat) (f : Addr) (fd : FuncData) (ps : List Str) (F : List D → Sto → R D) : Prop where
  ok : FnOk X.prog X.w X.K X.mg X.base (L2.CX X.prog X.w) k f fd ps (spI X.K n F)
  mg : X.mg x = some (.ref f)
  kp : PySem.W.keepIn X.K (.ref f) = true
section
variable {X : Cx} {pos p0 apos : Pos} {e o : Expr} {es : List Expr} {x mt : Str} {t : DA} {dobj : DE} {k n : Nat} {f C : Addr} {fd : FuncData} {ps : List Str} {F : List D → Sto → R D} {dd : List D} {dvs : List V} {ds : List Value}
theorem ze_call (G : Fd X x k n f fd ps F) (hr : Room k X.A) (hb : Binds X.K fd ps ds) (hd : Vals dvs ds) (hdd : ∀ m B H, RDs X.K m B H dd dvs) (ha : ZA X (e :: es) t) (hg : Gl X x := by rfl) (hdb : (x == ("__debug__" : Str)) = false := by decide)
    (he : starEach (e :: es) X.env = (false, eval e X.env) :: starEach es X.env := by rfl) (hpl : (backTo pos (starEach es X.env)).any (·.1) = false := by rfl) : ZE X (.Call (.Name x p0) (e :: es) [] pos) (eFn n F dd t) := fun W tk =>
  pe_weak (pe_callSD (E := fun σ => WE W σ) G.ok hr hg G.mg G.kp hb hd (fun σ => passAt tk σ) (ha W tk) hdb he hpl) fun σ H Q ⟨m, B, ρ, S, rs, e, p⟩ => tAr.take rs e p fun ds S1 m1 H1 vs g1 r1 e1 rds p1 => by
    split at p1
    · rename_i hn
      exact ⟨m1, B, ds ++ dd, S1, r1, rds.app (hdd _ _ _), hn, p1⟩
    · exact p1.elim
theorem ze_call0 (G : Fd X x k n f fd ps F) (hr : Room k X.A) (hb : Binds X.K fd ps ds) (hd : Vals dvs ds) (hdd : ∀ m B H, RDs X.K m B H dd dvs) (hg : Gl X x := by rfl) (hdb : (x == ("__debug__" : Str)) = false := by decide) :
    ZE X (.Call (.Name x p0) [] [] pos) (eFn n F dd aN) := fun W tk => ⟨fun pins s σ H Q I ⟨m, B, ρ, S, rs, e, p⟩ => by
  have p1 : Post X.K m B H (fun c x H' => W c x σ H') (fun d _ m' H' => ∀ v, RD X.K m' B H' d v → Q v H') (if ([] ++ dd).length = n then F ([] ++ dd) S else .bad) := p
  split at p1
  · rename_i hn
    refine wpAny_Call_Name_kw (ld_glob I hg G.mg ?_ hdb)
    exact PySem.W.callWith_K0 I.kIn G.kp (run_fnSD (E := fun σ => WE W σ) (us := []) (vs := []) G.ok hr hb hd (passAt tk σ) I .nil ⟨m, B, [] ++ dd, S, rs, by simpa using hdd m B H, hn, p1⟩)
  · exact p1.elim⟩
/-- o.m(..) of an own instance -/
def eMt (cs : List Addr) (mt : Str) (C : Addr) (n : Nat) (F : List D → Sto → R D) (dd : List D) (a : DE) (r : DA) : DE := fun ρ S => (a ρ S).bind fun d S1 => match d with
  | .ref k => match S1[k]? with
    | some (.ins c fs) => if c = C then match fs.lookup mt with
      | none => (r ρ S1).bind fun ds S2 => if (d :: (ds ++ dd)).length = n then F (d :: (ds ++ dd)) S2 else .bad
      | some _ => .bad else .bad
    | _ => .bad
  | _ => .bad
theorem ze_meth {cs : List Addr} {pl : Sem Bool} (ho : ZE X o dobj) (cl : Cls X.K C) (hm : Meth X.K C mt f) (ok : FnOk X.prog X.w X.K X.mg X.base (L2.CX X.prog X.w) k f fd ps (spI X.K n F)) (hr : Room k X.A) (hb : Binds X.K fd ps ds) (hd : Vals dvs ds) (hdd : ∀ m B H, RDs X.K m B H dd dvs) (ha : ZA X (e :: es) t)
    (hst : starEach (e :: es) X.env = (false, eval e X.env) :: starEach es X.env := by rfl) (hpl : (backTo pos (starEach es X.env)).any (·.1) = false := by rfl)
    (ht : eval (.Call (.Attribute o mt apos) (e :: es) [] pos) X.env = (do
      let ov ← eval o X.env
      standAt apos.atName
      let (f, first) ← holding [ov] (getMethod ov mt pl)
      callWith pos f first (backTo pos (starEach (e :: es) X.env)) (backToKw pos (keywordEach [] X.env))) := by rfl) :
    ZE X (.Call (.Attribute o mt apos) (e :: es) [] pos) (eMt cs mt C n F dd dobj t) := fun W tk => ⟨fun pins s σ H Q I ⟨m, B, ρ, S, rs, e, p⟩ => by
  refine PySem.W.methodCall_KW (pl := pl) (thn ((ho W tk).run pins s σ H (fun x H1 => ∃ m1 k a dx vs S1, RS X.K m1 B H1 S1 ∧ REs X.K m1 B H1 ρ σ ∧ x = .ref a ∧ m1[k]? = some a ∧ H1 a = some (.ins C dx vs) ∧ vs.lookup mt = none ∧ Ge m H m1 H1 ∧
      Post X.K m1 B H1 (fun c x H' => W c x σ H') (fun d _ m' H' => ∀ v, RD X.K m' B H' d v → Q v H') ((t ρ S1).bind fun ds S2 => if (D.ref k :: (ds ++ dd)).length = n then F (.ref k :: (ds ++ dd)) S2 else .bad)) I ?_) fun u s1 hh => ?_) ht
  · refine tE.takeA rs e p fun d S1 m1 H1 v g1 r1 e1 rd p1 => ?_
    cases d <;> try exact p1.elim
    rename_i k
    unfold RD at rd
    obtain ⟨a, rfl, q⟩ := rd
    simp only at p1
    split at p1
    · rename_i c fs hn
      split at p1
      · rename_i hcc
        cases hl : fs.lookup mt with
        | some x => rw [hl] at p1; exact p1.elim
        | none =>
          rw [hl] at p1
          obtain ⟨dx, vs, ea, rf⟩ := r1.ob k a _ q hn
          exact ⟨m1, k, a, dx, vs, S1, r1, e1, rfl, q, by rw [← hcc]; exact ea, rf.lookN hl, g1, p1⟩
      · exact p1.elim
    · exact p1.elim
  · obtain ⟨x, H1, I1, rx, m1, k, a, dx, vs, S1, r1, e1, rfl, q, ea, l, g1, p1⟩ := hh
    obtain rfl : u = Value.ref a := rx
    refine getmeth_ok I1 ea cl hm l ?_
    refine PySem.W.callWith_K (first := [.ref a]) (h₀ := X.base) I.ok.mod.kin hm.kp (thn ((ha W tk).run pos pins s1 σ H1 (fun vs H2 => spI X.K n F (.ref a :: (vs ++ dvs)) H2 Q (WE W σ)) I1 ?_) fun us s2 ⟨vs2, H2, I2, r, q2⟩ => ⟨I2.kIn, ?_⟩) hst hpl
    · refine tAr.take r1 e1 p1 fun ds S2 m2 H2 vs2 g2 r2 e2 rds p2 => ?_
      split at p2
      · rename_i hn
        refine ⟨m2, B, D.ref k :: (ds ++ dd), S2, r2, RDs.cons ?_ (rds.app (hdd _ _ _)), hn, p2⟩
        unfold RD
        exact ⟨a, rfl, (g2.tr (B := B)).at_ _ _ q⟩
      · exact p2.elim
    · exact run_fnSD (E := fun σ => WE W σ) (us := .ref a :: us) (vs := .ref a :: vs2) ok hr hb hd (passAt tk σ) I2 (.cons rfl r) q2⟩
theorem ze_meth0 {cs : List Addr} {pl : Sem Bool} (ho : ZE X o dobj) (cl : Cls X.K C) (hm : Meth X.K C mt f) (ok : FnOk X.prog X.w X.K X.mg X.base (L2.CX X.prog X.w) k f fd ps (spI X.K n F)) (hr : Room k X.A) (hb : Binds X.K fd ps ds) (hd : Vals dvs ds) (hdd : ∀ m B H, RDs X.K m B H dd dvs)
    (ht : eval (.Call (.Attribute o mt apos) [] [] pos) X.env = (do
      let ov ← eval o X.env
      standAt apos.atName
      let (f, first) ← holding [ov] (getMethod ov mt pl)
      callWith pos f first (backTo pos (starEach [] X.env)) (backToKw pos (keywordEach [] X.env))) := by rfl) :
    ZE X (.Call (.Attribute o mt apos) [] [] pos) (eMt cs mt C n F dd dobj aN) := fun W tk => ⟨fun pins s σ H Q I ⟨m, B, ρ, S, rs, e, p⟩ => by
  refine PySem.W.methodCall_KW (pl := pl) (thn ((ho W tk).run pins s σ H (fun x H1 => ∃ a dx vs, x = .ref a ∧ H1 a = some (.ins C dx vs) ∧ vs.lookup mt = none ∧ spI X.K n F (.ref a :: dvs) H1 Q (WE W σ)) I ?_) fun u s1 hh => ?_) ht
  · refine tE.takeA rs e p fun d S1 m1 H1 v g1 r1 e1 rd p1 => ?_
    cases d <;> try exact p1.elim
    rename_i k
    have rd' := rd
    unfold RD at rd
    obtain ⟨a, rfl, q⟩ := rd
    simp only at p1
    split at p1
    · rename_i c fs hn
      split at p1
      · rename_i hcc
        cases hl : fs.lookup mt with
        | some x => rw [hl] at p1; exact p1.elim
        | none =>
          rw [hl] at p1
          obtain ⟨dx, vs, ea, rf⟩ := r1.ob k a _ q hn
          refine ⟨a, dx, vs, rfl, by rw [← hcc]; exact ea, rf.lookN hl, ?_⟩
          have p2 : Post X.K m1 B H1 (fun c x H' => W c x σ H') (fun d _ m' H' => ∀ v, RD X.K m' B H' d v → Q v H') (if (D.ref k :: ([] ++ dd)).length = n then F (.ref k :: ([] ++ dd)) S1 else .bad) := p1
          split at p2
          · rename_i hn
            exact ⟨m1, B, D.ref k :: ([] ++ dd), S1, r1, RDs.cons rd' (by simpa using hdd m1 B H1), hn, p2⟩
          · exact p2.elim
      · exact p1.elim
    · exact p1.elim
  · obtain ⟨x, H1, I1, rx, a, dx, vs, rfl, ea, l, q2⟩ := hh
    obtain rfl : u = Value.ref a := rx
    refine getmeth_ok I1 ea cl hm l ?_
    exact PySem.W.callWith_K0 (first := [.ref a]) I1.kIn hm.kp (run_fnSD (E := fun σ => WE W σ) (us := [.ref a]) (vs := [.ref a]) ok hr hb hd (passAt tk σ) I1 (.cons rfl .nil) q2)⟩
end
end Z
namespace Z
open PySem L2

/-! ### statements -/
/-- what comes of a statement -/
inductive SR where
  | nx (ρ : Env) (S : Sto) | rt (d : D) (S : Sto) | bk (ρ : Env) (S : Sto) | ct (ρ : Env) (S : Sto) | exc (ρ : Env) (c : Addr) (d : D) (S : Sto) | bad
abbrev DS := Env → Sto → SR
def SR.then (r : SR) (f : DS) : SR := match r with
  | .nx ρ S => f ρ S
  | r => r
@[simp] theorem SR.then_nx (ρ : Env) (S : Sto) (f : DS) : (SR.nx ρ S).then f = f ρ S := rfl
@[simp] theorem SR.then_rt (d : D) (S : Sto) (f : DS) : (SR.rt d S).then f = .rt d S := rfl
@[simp] theorem SR.then_bk (ρ : Env) (S : Sto) (f : DS) : (SR.bk ρ S).then f = .bk ρ S := rfl
@[simp] theorem SR.then_ct (ρ : Env) (S : Sto) (f : DS) : (SR.ct ρ S).then f = .ct ρ S := rfl
@[simp] theorem SR.then_exc (ρ : Env) (c : Addr) (d : D) (S : Sto) (f : DS) : (SR.exc ρ c d S).then f = .exc ρ c d S := rfl
@[simp] theorem SR.then_bad (f : DS) : SR.bad.then f = .bad := rfl
def R.to {α : Type} (ρ : Env) (r : R α) (f : α → Sto → SR) : SR := match r with
  | .ok a S => f a S
  | .exc c d S => .exc ρ c d S
  | .bad => .bad
@[simp] theorem R.to_ok {α : Type} (ρ : Env) (a : α) (S : Sto) (f : α → Sto → SR) : (R.ok a S).to ρ f = f a S := rfl
@[simp] theorem R.to_exc {α : Type} (ρ : Env) (c : Addr) (d : D) (S : Sto) (f : α → Sto → SR) : (R.exc c d S : R α).to ρ f = .exc ρ c d S := rfl
@[simp] theorem R.to_bad {α : Type} (ρ : Env) (f : α → Sto → SR) : (R.bad : R α).to ρ f = .bad := rfl
def PostS (K : PySem.W.Frag) (m B : List Addr) (H : Hp) (W : WX) (E : Ends) : SR → Prop
  | .nx ρ S' => ∀ m' H' σ', Ge m H m' H' → RS K m' B H' S' → REs K m' B H' ρ σ' → E.nx σ' H'
  | .rt d S' => ∀ m' H' v, Ge m H m' H' → RS K m' B H' S' → RD K m' B H' d v → E.rt v H'
  | .bk ρ S' => ∀ m' H' σ', Ge m H m' H' → RS K m' B H' S' → REs K m' B H' ρ σ' → E.bk σ' H'
  | .ct ρ S' => ∀ m' H' σ', Ge m H m' H' → RS K m' B H' S' → REs K m' B H' ρ σ' → E.ct σ' H'
  | .exc ρ c d S' => ∀ m' H' σ' x v, Ge m H m' H' → RS K m' B H' S' → REs K m' B H' ρ σ' → H' x = some (.xd [("at", v)]) → RD K m' B H' d v → W (.ref c) (some x) σ' H'
  | .bad => False
theorem PostS.ge {K : PySem.W.Frag} {m m' B : List Addr} {H H' : Hp} {W : WX} {E : Ends} {r : SR} (h : PostS K m B H W E r) (g : Ge m H m' H') : PostS K m' B H' W E r := by
  cases r with
  | nx ρ S => exact fun m2 H2 σ g2 => h m2 H2 σ (g.trans g2)
  | rt d S => exact fun m2 H2 v g2 => h m2 H2 v (g.trans g2)
  | bk ρ S => exact fun m2 H2 σ g2 => h m2 H2 σ (g.trans g2)
  | ct ρ S => exact fun m2 H2 σ g2 => h m2 H2 σ (g.trans g2)
  | exc ρ c d S => exact fun m2 H2 σ x v g2 => h m2 H2 σ x v (g.trans g2)
  | bad => exact h
/-- the reading of a statement -/
def tS (W : WX) (K : PySem.W.Frag) (den : DS) : TS := fun E σ H => ∃ m B ρ S, RS K m B H S ∧ REs K m B H ρ σ ∧ PostS K m B H W E (den ρ S)
def ZS (X : Cx) (st : Stmt) (den : DS) : Prop := ∀ W, Takes X W → PS X st (tS W X.K den)
def ZB (X : Cx) (sts : List Stmt) (den : DS) : Prop := ∀ W, Takes X W → PSs X sts (tS W X.K den)
/-- an expression ahead of what follows -/
theorem tE.takeS {W : WX} {K : PySem.W.Frag} {da : DE} {f : D → Sto → SR} {σ : L2.St} {H : Hp} {Q' : VK} {m B : List Addr} {ρ : Env} {S : Sto} {E : Ends} (r : RS K m B H S) (e : REs K m B H ρ σ)
    (h : PostS K m B H W E ((da ρ S).to ρ f))
    (k : ∀ d S1 m1 H1 v, Ge m H m1 H1 → RS K m1 B H1 S1 → REs K m1 B H1 ρ σ → RD K m1 B H1 d v → PostS K m1 B H1 W E (f d S1) → Q' v H1) : tE W K da σ H Q' := by
  refine ⟨m, B, ρ, S, r, e, ?_⟩
  cases hd : da ρ S with
  | ok d S1 =>
    rw [hd] at h
    exact fun m1 H1 g1 r1 v rv => k d S1 m1 H1 v g1 r1 (e.mono g1.tr) rv (PostS.ge h g1)
  | exc c d S1 =>
    rw [hd] at h
    exact fun m1 H1 x v g1 r1 hx rv => h m1 H1 σ x v g1 r1 (e.mono g1.tr) hx rv
  | bad => rw [hd] at h; exact h
theorem tTe.takeS {W : WX} {K : PySem.W.Frag} {da : DT} {f : Bool → Sto → SR} {σ : L2.St} {H : Hp} {Q' : Bool → Hp → Prop} {m B : List Addr} {ρ : Env} {S : Sto} {E : Ends} (r : RS K m B H S) (e : REs K m B H ρ σ)
    (h : PostS K m B H W E ((da ρ S).to ρ f))
    (k : ∀ d S1 m1 H1, Ge m H m1 H1 → RS K m1 B H1 S1 → REs K m1 B H1 ρ σ → PostS K m1 B H1 W E (f d S1) → Q' d H1) : tTe W K da σ H Q' := by
  refine ⟨m, B, ρ, S, r, e, ?_⟩
  cases hd : da ρ S with
  | ok d S1 =>
    rw [hd] at h
    exact fun m1 H1 g1 r1 => k d S1 m1 H1 g1 r1 (e.mono g1.tr) (PostS.ge h g1)
  | exc c d S1 =>
    rw [hd] at h
    exact fun m1 H1 x v g1 r1 hx rv => h m1 H1 σ x v g1 r1 (e.mono g1.tr) hx rv
  | bad => rw [hd] at h; exact h
def sNx : DS := fun ρ S => .nx ρ S
def sSeq (a b : DS) : DS := fun ρ S => (a ρ S).then b
def sDrop (a : DE) : DS := fun ρ S => (a ρ S).to ρ fun _ S1 => .nx ρ S1
def sRet (a : DE) : DS := fun ρ S => (a ρ S).to ρ fun d S1 => .rt d S1
def sRetN : DS := fun _ S => .rt .non S
def sBrk : DS := fun ρ S => .bk ρ S
def sCont : DS := fun ρ S => .ct ρ S
def sIf (t : DT) (a b : DS) : DS := fun ρ S => (t ρ S).to ρ fun k S1 => if k = true then a ρ S1 else b ρ S1
section
variable {X : Cx} {pos : Pos} {e c : Expr} {st : Stmt} {rest as bs : List Stmt} {de : DE} {dt : DT} {da db : DS}
theorem zb_nil : ZB X [] sNx := fun W tk => pss_weak pss_nil fun E σ H ⟨m, B, ρ, S, rs, e, p⟩ => p m H σ (.refl m H) rs e
theorem zb_cons (h1 : ZS X st da) (h2 : ZB X rest db) : ZB X (st :: rest) (sSeq da db) := fun W tk => pss_weak (pss_cons (h1 W tk) (h2 W tk)) fun E σ H ⟨m, B, ρ, S, rs, e, p⟩ => by
  refine ⟨m, B, ρ, S, rs, e, ?_⟩
  unfold sSeq at p
  cases hd : da ρ S with
  | nx ρ' S' =>
    rw [hd] at p
    exact fun m1 H1 σ1 g1 r1 e1 => ⟨m1, B, ρ', S', r1, e1, PostS.ge p g1⟩
  | rt d S' => rw [hd] at p; exact p
  | bk ρ' S' => rw [hd] at p; exact p
  | ct ρ' S' => rw [hd] at p; exact p
  | exc ρ' c d S' => rw [hd] at p; exact p
  | bad => rw [hd] at p; exact p
theorem zb_one (h1 : ZS X st da) : ZB X [st] da := fun W tk => pss_one (h1 W tk)
theorem zs_pass : ZS X (.Pass pos) sNx := fun W tk => ps_weak ps_pass fun E σ H ⟨m, B, ρ, S, rs, e, p⟩ => p m H σ (.refl m H) rs e
theorem zs_brk : ZS X (.Break pos) sBrk := fun W tk => ps_weak ps_break fun E σ H ⟨m, B, ρ, S, rs, e, p⟩ => p m H σ (.refl m H) rs e
theorem zs_cont : ZS X (.Continue pos) sCont := fun W tk => ps_weak ps_continue fun E σ H ⟨m, B, ρ, S, rs, e, p⟩ => p m H σ (.refl m H) rs e
theorem zs_drop (h : ZE X e de) (hs : swapsWith e none pos.line X.env = pure false := by rfl) : ZS X (.Expr e pos) (sDrop de) := fun W tk => ps_weak (ps_expr (h W tk) hs) fun E σ H ⟨m, B, ρ, S, rs, e, p⟩ =>
  tE.takeS rs e p fun d S1 m1 H1 v g1 r1 e1 rd p1 => p1 m1 H1 σ (.refl _ _) r1 e1
theorem zs_ret (h : ZE X e de) : ZS X (.Return (some e) pos) (sRet de) := fun W tk => ps_weak (ps_ret (h W tk)) fun E σ H ⟨m, B, ρ, S, rs, e, p⟩ =>
  tE.takeS rs e p fun d S1 m1 H1 v g1 r1 e1 rd p1 => p1 m1 H1 v (.refl _ _) r1 rd
theorem zs_retN : ZS X (.Return none pos) sRetN := fun W tk => ps_weak ps_retN fun E σ H ⟨m, B, ρ, S, rs, e, p⟩ => p m H .non (.refl _ _) rs RDn
theorem zs_if (hc : ZT X c dt) (ha : ZB X as da) (hb : ZB X bs db) : ZS X (.If c as bs pos) (sIf dt da db) := fun W tk => ps_weak (ps_if (hc W tk) (ha W tk) (hb W tk)) fun E σ H ⟨m, B, ρ, S, rs, e, p⟩ =>
  tTe.takeS rs e p fun b S1 m1 H1 g1 r1 e1 p1 => by
    cases b with
    | true => exact ⟨m1, B, ρ, S1, r1, e1, p1⟩
    | false => exact ⟨m1, B, ρ, S1, r1, e1, p1⟩
end

/-! ### targets -/
inductive Tg where
  | nm (i : Nat) | tp (ts : List Tg)
mutual
def Tg.asg (S : Sto) : Tg → D → Env → Option Env
  | .nm i, d, ρ => some (ρ.set i (some d))
  | .tp ts, d, ρ => match seqOf S d with
    | some ds => Tg.asgs S ts ds ρ
    | none => none
def Tg.asgs (S : Sto) : List Tg → List D → Env → Option Env
  | [], [], ρ => some ρ
  | t :: ts, d :: ds, ρ => (Tg.asg S t d ρ).bind fun ρ' => Tg.asgs S ts ds ρ'
  | _, _, _ => none
end
mutual
def Tg.ix : Tg → List Nat
  | .nm i => [i]
  | .tp ts => Tg.ixs ts
def Tg.ixs : List Tg → List Nat
  | [] => []
  | t :: ts => Tg.ix t ++ Tg.ixs ts
end
/-- the same but for the slots at is -/
def Sam (is : List Nat) (σ σ' : L2.St) : Prop := ∀ vs : List Nat, (∀ i ∈ is, i ∈ vs) → wipe σ' vs = wipe σ vs
theorem Sam.refl {is : List Nat} {σ : L2.St} : Sam is σ σ := fun _ _ => rfl
theorem Sam.trans {is js : List Nat} {σ σ1 σ2 : L2.St} (a : Sam is σ σ1) (b : Sam js σ1 σ2) : Sam (is ++ js) σ σ2 := fun vs h => (b vs fun i hi => h i (List.mem_append_right _ hi)).trans (a vs fun i hi => h i (List.mem_append_left _ hi))
theorem wipe_set {σ : L2.St} {i : Nat} {x : Option V} : ∀ {vs : List Nat}, wipe (σ.set i x) vs = (wipe σ vs).set i (if i ∈ vs then none else x) ∨ (i ∈ vs ∧ wipe (σ.set i x) vs = wipe σ vs)
  | [] => .inl (by simp [wipe])
  | v :: vs => by
    by_cases hv : v = i
    · subst hv
      refine .inr ⟨List.mem_cons_self .., ?_⟩
      unfold wipe
      rcases wipe_set (σ := σ) (i := v) (x := x) (vs := vs) with h | ⟨_, h⟩
      · rw [h, List.set_set]
      · rw [h]
    · rcases wipe_set (σ := σ) (i := i) (x := x) (vs := vs) with h | ⟨hm, h⟩
      · by_cases hi : i ∈ vs
        · refine .inr ⟨List.mem_cons_of_mem _ hi, ?_⟩
          unfold wipe
          have : wipe (σ.set i x) vs = wipe σ vs := by
            rw [h, if_pos hi]
            exact wipe_in hi
          rw [this]
        · refine .inl ?_
          unfold wipe
          rw [h, if_neg hi, if_neg (by simp only [List.mem_cons, not_or]; exact ⟨Ne.symm hv, hi⟩), List.set_comm _ _ (Ne.symm hv)]
      · refine .inr ⟨List.mem_cons_of_mem _ hm, ?_⟩
        unfold wipe
        rw [h]
where
  wipe_in {σ : L2.St} {i : Nat} : ∀ {vs : List Nat}, i ∈ vs → (wipe σ vs).set i none = wipe σ vs
  | [], h => by simp at h
  | v :: vs, h => by
    unfold wipe
    by_cases hv : v = i
    · subst hv
      rw [List.set_set]
    · have hi : i ∈ vs := by
        rcases List.mem_cons.mp h with e | h
        · exact absurd e.symm hv
        · exact h
      rw [List.set_comm _ _ hv, wipe_in hi]
theorem Sam.set {σ : L2.St} {i : Nat} {x : Option V} : Sam [i] σ (σ.set i x) := fun vs h => by
  have hi : i ∈ vs := h i (List.mem_cons_self ..)
  rcases wipe_set (σ := σ) (i := i) (x := x) (vs := vs) with q | ⟨_, q⟩
  · rw [q, if_pos hi, wipe_set.wipe_in hi]
  · exact q
theorem wipe_wipe {σ : L2.St} : ∀ vs : List Nat, wipe (wipe σ vs) vs = wipe σ vs := fun vs => go vs vs fun _ h => h
where
  go {σ : L2.St} (ws : List Nat) : ∀ vs : List Nat, (∀ i ∈ vs, i ∈ ws) → wipe (wipe σ ws) vs = wipe σ ws
  | [], _ => rfl
  | v :: vs, h => by
    show (wipe (wipe σ ws) vs).set v none = wipe σ ws
    rw [go ws vs fun i hi => h i (List.mem_cons_of_mem _ hi)]
    exact wipe_set.wipe_in (h v (List.mem_cons_self ..))
/-- the reading of a target -/
def gT (K : PySem.W.Frag) (tg : Tg) : TG := fun v σ H Q => ∃ m B S d ρ ρ', RS K m B H S ∧ RD K m B H d v ∧ REs K m B H ρ σ ∧ Tg.asg S tg d ρ = some ρ' ∧ ∀ σ', REs K m B H ρ' σ' → Sam tg.ix σ σ' → Q σ' H
def gTs (K : PySem.W.Frag) (ts : List Tg) : TGs := fun vs σ H Q => ∃ m B S ds ρ ρ', RS K m B H S ∧ RDs K m B H ds vs ∧ REs K m B H ρ σ ∧ Tg.asgs S ts ds ρ = some ρ' ∧ ∀ σ', REs K m B H ρ' σ' → Sam (Tg.ixs ts) σ σ' → Q σ' H
def ZG (X : Cx) (target : Expr) (tg : Tg) : Prop := PG X target (gT X.K tg)
def ZGs (X : Cx) (es : List Expr) (ts : List Tg) : Prop := PGs X es (gTs X.K ts)
theorem pgs_weak {X : Cx} {e : List Expr} {t t' : TGs} (h : PGs X e t) (i : ∀ v σ H Q, t' v σ H Q → t v σ H Q) : PGs X e t' := ⟨fun pins s σ H x u Q I r q => h.run pins s σ H x u Q I r (i _ _ _ _ q)⟩
theorem Tg.asgs_len {S : Sto} : ∀ {ts : List Tg} {ds : List D} {ρ ρ' : Env}, Tg.asgs S ts ds ρ = some ρ' → ts.length = ds.length
  | [], [], _, _, _ => rfl
  | t :: ts, d :: ds, _, _, h => by
    simp only [Tg.asgs, Option.bind_eq_some_iff] at h
    obtain ⟨_, _, h⟩ := h
    simp [Tg.asgs_len h]
  | [], _ :: _, _, _, h => by simp [Tg.asgs] at h
  | _ :: _, [], _, _, h => by simp [Tg.asgs] at h
section
variable {X : Cx} {pos : Pos} {e : Expr} {es : List Expr} {t : Tg} {ts : List Tg}
theorem zg_nm {i : Nat} {x : Str} (hN : X.N.Nodup) (hi : X.N[i]? = some x := by rfl) (hx : Loc X.env.scope x := by first | exact Or.inl rfl | exact Or.inr rfl) (hf : X.fn x = true ∨ X.env.scope.names.lookup x = some .local := by first | exact .inl rfl | exact .inr rfl | assumption) : ZG X (.Name x pos) (.nm i) :=
  pg_weak (pg_name hN hi hx hf) fun v σ H Q ⟨m, B, S, d, ρ, ρ', rs, rd, e, ha, k⟩ => by
    simp only [Tg.asg] at ha
    cases ha
    exact k _ (e.set i rd) Sam.set
theorem zgs_nil : ZGs X [] [] := pgs_weak pgs_nil fun vs σ H Q ⟨m, B, S, ds, ρ, ρ', rs, rd, e, ha, k⟩ => by
  cases ds with
  | nil =>
    unfold RDs at rd
    simp only [Tg.asgs] at ha
    cases ha
    exact ⟨rd, k σ e Sam.refl⟩
  | cons d ds => simp [Tg.asgs] at ha
theorem zgs_cons (h1 : ZG X e t) (h2 : ZGs X es ts) (hs : (assignEach (e :: es) X.env).map (·.2) = assign e X.env :: (assignEach es X.env).map (·.2) := by rfl) : ZGs X (e :: es) (t :: ts) :=
  pgs_weak (pgs_cons h1 h2 hs) fun vs σ H Q ⟨m, B, S, ds, ρ, ρ', rs, rd, e, ha, k⟩ => by
    cases ds with
    | nil => simp [Tg.asgs] at ha
    | cons d ds =>
      unfold RDs at rd
      obtain ⟨x, r, rfl, h1, h2⟩ := rd
      simp only [Tg.asgs, Option.bind_eq_some_iff] at ha
      obtain ⟨ρ1, ha1, ha2⟩ := ha
      exact ⟨x, r, rfl, m, B, S, d, ρ, ρ1, rs, h1, e, ha1, fun σ1 e1 s1 => ⟨m, B, S, ds, ρ1, ρ', rs, h2, e1, ha2, fun σ2 e2 s2 => k σ2 e2 (s1.trans s2)⟩⟩
theorem zg_tp {k : Nat} (hc : X.calm = true) (h : ZGs X es ts) (hn : (assignEach es X.env).length = ts.length := by rfl) (hst : (assignEach es X.env).findIdx? (·.1) = none := by rfl) : ZG X (.Tuple es k pos) (.tp ts) :=
  ⟨fun pins s σ H v u Q I rv ⟨m, B, S, d, ρ, ρ', rs, rd, e, ha, k⟩ => by
    simp only [Tg.asg] at ha
    split at ha
    · rename_i ds hd
      obtain ⟨a, vs, rfl, sq, r⟩ := seqOf_ok rs rd hd
      have hl : vs.length = ts.length := by rw [← r.len]; exact (Tg.asgs_len ha).symm
      rcases sq with sq | sq
      · exact (pg_unl hc h hn hst).run pins s σ H _ u Q I rv ⟨a, vs, rfl, sq, hl, m, B, S, ds, ρ, ρ', rs, r, e, ha, fun σ' e' s' => k σ' e' s'⟩
      · exact (pg_tup hc h hn hst).run pins s σ H _ u Q I rv ⟨a, vs, rfl, sq, hl, m, B, S, ds, ρ, ρ', rs, r, e, ha, fun σ' e' s' => k σ' e' s'⟩
    · cases ha⟩
end
/-- target = value -/
def sAsg (tg : Tg) (a : DE) : DS := fun ρ S => (a ρ S).to ρ fun d S1 => match Tg.asg S1 tg d ρ with
  | some ρ' => .nx ρ' S1
  | none => .bad
/-- x = value -/
def sSet (i : Nat) (a : DE) : DS := fun ρ S => (a ρ S).to ρ fun d S1 => .nx (ρ.set i (some d)) S1
section
variable {X : Cx} {pos : Pos} {e tg : Expr} {t : Tg} {de : DE}
theorem zs_asg (he : ZE X e de) (hg : ZG X tg t) (hs : swapsWithSole [tg] e pos.line X.env = pure false := by rfl) (hw : swappedStores [tg] e X.env = pure none := by rfl) (ha : (assignEach [tg] X.env).map (·.2) = [assign tg X.env] := by rfl) : ZS X (.Assign [tg] e pos) (sAsg t de) := fun W tk => ps_weak (ps_asg (he W tk) hg hs hw ha) fun E σ H ⟨m, B, ρ, S, rs, e, p⟩ =>
  tE.takeS rs e p fun d S1 m1 H1 v g1 r1 e1 rd p1 => by
    cases ha : Tg.asg S1 t d ρ with
    | none => rw [ha] at p1; exact p1.elim
    | some ρ' =>
      rw [ha] at p1
      exact ⟨m1, B, S1, d, ρ, ρ', r1, rd, e1, ha, fun σ' e' _ => p1 m1 H1 σ' (.refl _ _) r1 e'⟩
theorem zs_set {i : Nat} {x : Str} {pos' : Pos} (hN : X.N.Nodup) (he : ZE X e de) (hi : X.N[i]? = some x := by rfl) (hx : Loc X.env.scope x := by first | exact Or.inl rfl | exact Or.inr rfl) (hs : swapsWith e (some (.Name x pos')) pos.line X.env = pure false := by rfl)
    (hf : X.fn x = true ∨ X.env.scope.names.lookup x = some .local := by first | exact .inl rfl | exact .inr rfl | assumption) : ZS X (.Assign [.Name x pos'] e pos) (sSet i de) := fun W tk => ps_weak (ps_set hN hi hx (he W tk) hs hf) fun E σ H ⟨m, B, ρ, S, rs, e, p⟩ =>
  tE.takeS rs e p fun d S1 m1 H1 v g1 r1 e1 rd p1 => p1 m1 H1 _ (.refl _ _) r1 (e1.set i rd)
/-- a, b = e1, e2 -/
def sPar (i j : Nat) (a b : DE) : DS := fun ρ S => (a ρ S).to ρ fun d S1 => (b ρ S1).to ρ fun e S2 => .nx ((ρ.set i (some d)).set j (some e)) S2
end
end Z
namespace Z
open PySem L2

/-! ### while -/
def whileI (t : DT) (b : DS) : Nat → DS
  | 0 => fun _ _ => .bad
  | n + 1 => fun ρ S => (t ρ S).to ρ fun k S1 => if k = true then match b ρ S1 with
    | .nx ρ' S' => whileI t b n ρ' S'
    | .ct ρ' S' => whileI t b n ρ' S'
    | .bk ρ' S' => .nx ρ' S'
    | r => r else .nx ρ S1
section
variable {X : Cx} {pos : Pos} {c : Expr} {body : List Stmt} {dt : DT} {db : DS}
theorem zs_while (n : Nat) (hp : PassesOwn (model X.prog X.w) X.A X.env X.xe) (hc : ZT X c dt) (hb : ZB X body db) : ZS X (.While c body [] pos) (whileI dt db n) := fun W tk => ps_weak (ps_while hp (hc W tk) (hb W tk)) fun E σ H ⟨m, B, ρ, S, rs, e, p⟩ => by
  refine ⟨fun n σ H => ∃ m B ρ S, RS X.K m B H S ∧ REs X.K m B H ρ σ ∧ PostS X.K m B H W E (whileI dt db n ρ S), ⟨n, m, B, ρ, S, rs, e, p⟩, ?_⟩
  rintro n σ H ⟨m, B, ρ, S, rs, e, p⟩
  cases n with
  | zero => exact (show False from p).elim
  | succ n =>
    refine tTe.takeS rs e p fun k S1 m1 H1 g1 r1 e1 p1 => ?_
    cases k with
    | false => exact p1 m1 H1 σ (.refl _ _) r1 e1
    | true =>
      refine ⟨fun σ H => ∃ m B ρ S, RS X.K m B H S ∧ REs X.K m B H ρ σ ∧ PostS X.K m B H W E (whileI dt db n ρ S), fun σ' H' h => ⟨n, Nat.lt_succ_self _, h⟩, m1, B, ρ, S1, r1, e1, ?_⟩
      have p2 : PostS X.K m1 B H1 W E (match db ρ S1 with
        | .nx ρ' S' => whileI dt db n ρ' S'
        | .ct ρ' S' => whileI dt db n ρ' S'
        | .bk ρ' S' => .nx ρ' S'
        | r => r) := p1
      cases hd : db ρ S1 with
      | nx ρ' S' => rw [hd] at p2; exact fun m2 H2 σ2 g2 r2 e2 => ⟨m2, B, ρ', S', r2, e2, PostS.ge p2 g2⟩
      | ct ρ' S' => rw [hd] at p2; exact fun m2 H2 σ2 g2 r2 e2 => ⟨m2, B, ρ', S', r2, e2, PostS.ge p2 g2⟩
      | bk ρ' S' => rw [hd] at p2; exact p2
      | rt d S' => rw [hd] at p2; exact p2
      | exc ρ' c d S' => rw [hd] at p2; exact p2
      | bad => rw [hd] at p2; exact p2
end

/-! ### what is walked -/
/-- J gives ds, one behind another, as long as the store is so -/
structure JY (K : PySem.W.Frag) (J : It) (m0 B0 : List Addr) (H0 : Hp) (ds : List D) (chk : Sto → Prop) : Prop where
  go : ∀ (i : Nat) m B H S, Tr m0 B0 H0 m B H → RS K m B H S → chk S → i < ds.length → J.go i H
  yl : ∀ (i : Nat) m B H S x H' d, Tr m0 B0 H0 m B H → RS K m B H S → chk S → ds[i]? = some d → J.yld i H x H' → (∀ b o, H b = some o → H' b = some o) ∧ RD K m B H' d x
  st : ∀ (i : Nat) m B H S, Tr m0 B0 H0 m B H → RS K m B H S → chk S → ds.length ≤ i → J.stop i H
abbrev DI := Env → Sto → R (List D × (Sto → Prop))
def tI (W : WX) (K : PySem.W.Frag) (den : DI) : TI := fun σ H Q => ∃ m B ρ S, RS K m B H S ∧ REs K m B H ρ σ ∧ Post K m B H (fun c x H' => W c x σ H') (fun p S' m' H' => p.2 S' → ∀ J, JY K J m' B H' p.1 p.2 → Q J H') (den ρ S)
def ZI (X : Cx) (tg iter : Expr) (den : DI) : Prop := ∀ W, Takes X W → PI X tg iter (tI W X.K den)
theorem Tr.refl {m B : List Addr} {H : Hp} : Tr m B H m B H := ⟨fun _ _ h => h, fun _ _ h1 h2 h3 => ⟨h1, h2, h3⟩⟩
theorem Tr.trans {m m1 m2 B B1 B2 : List Addr} {H H1 H2 : Hp} (a : Tr m B H m1 B1 H1) (b : Tr m1 B1 H1 m2 B2 H2) : Tr m B H m2 B2 H2 :=
  ⟨fun n x h => b.at_ n x (a.at_ n x h), fun x u h1 h2 h3 => by
    obtain ⟨q1, q2, q3⟩ := a.rd x u h1 h2 h3
    exact b.rd x u q1 q2 q3⟩
section
variable {K : PySem.W.Frag} {m0 B0 : List Addr} {H0 : Hp} {ds : List D}
theorem jy_list {a : Addr} {vs : List V} (hs : FL K m0 B0 H0 a vs) (r : RDs K m0 B0 H0 ds vs) : JY K (Itl K a) m0 B0 H0 ds fun _ => True where
  go := fun i m B H S t rs _ hi => by
    have q := (hs.mono t).sq
    exact ⟨vs, vs[i]'(by rw [← r.len]; exact hi), q, by simp [show i < vs.length by rw [← r.len]; exact hi]⟩
  yl := fun i m B H S x H' d t rs _ hd y => by
    obtain ⟨rfl, y⟩ := y
    refine ⟨fun _ _ h => h, ?_⟩
    obtain ⟨v, hv, rv⟩ := (RDs.mono t _ _ r).get hd
    have := y vs (hs.mono t).sq
    rw [hv] at this
    cases this
    exact rv
  st := fun i m B H S t rs _ hi => ⟨vs, (hs.mono t).sq, by rw [← r.len]; exact hi⟩
theorem jy_tup {a : Addr} {vs : List V} (hs : FT K m0 B0 H0 a vs) (r : RDs K m0 B0 H0 ds vs) : JY K (Itt K a) m0 B0 H0 ds fun _ => True where
  go := fun i m B H S t rs _ hi => by
    have q := (hs.mono t).sq
    exact ⟨vs, vs[i]'(by rw [← r.len]; exact hi), q, by simp [show i < vs.length by rw [← r.len]; exact hi]⟩
  yl := fun i m B H S x H' d t rs _ hd y => by
    obtain ⟨rfl, y⟩ := y
    refine ⟨fun _ _ h => h, ?_⟩
    obtain ⟨v, hv, rv⟩ := (RDs.mono t _ _ r).get hd
    have := y vs (hs.mono t).sq
    rw [hv] at this
    cases this
    exact rv
  st := fun i m B H S t rs _ hi => ⟨vs, (hs.mono t).sq, by rw [← r.len]; exact hi⟩
theorem jy_ref {n : Nat} {a : Addr} (hn : m0[n]? = some a) : JY K (Itl K a) m0 B0 H0 ds fun S => S[n]? = some (.lst ds) where
  go := fun i m B H S t rs hc hi => by
    obtain ⟨vs, ea, r⟩ := rs.ob n a _ (t.at_ _ _ hn) hc
    exact ⟨vs, vs[i]'(by rw [← r.len]; exact hi), SqL.of ea, by simp [show i < vs.length by rw [← r.len]; exact hi]⟩
  yl := fun i m B H S x H' d t rs hc hd y => by
    obtain ⟨rfl, y⟩ := y
    refine ⟨fun _ _ h => h, ?_⟩
    obtain ⟨vs, ea, r⟩ := rs.ob n a _ (t.at_ _ _ hn) hc
    obtain ⟨v, hv, rv⟩ := r.get hd
    have := y vs (SqL.of ea)
    rw [hv] at this
    cases this
    exact rv
  st := fun i m B H S t rs hc hi => by
    obtain ⟨vs, ea, r⟩ := rs.ob n a _ (t.at_ _ _ hn) hc
    exact ⟨vs, SqL.of ea, by rw [← r.len]; exact hi⟩
def iRow (lo : Int) (n : Nat) : List D := (List.range n).map fun i => .int (lo + (i : Nat))
theorem iRow_len (lo : Int) (n : Nat) : (iRow lo n).length = n := by simp [iRow]
theorem iRow_get (lo : Int) (n i : Nat) (h : i < n) : (iRow lo n)[i]? = some (.int (lo + (i : Nat))) := by simp [iRow, h]
theorem jy_range {lo : Int} {n : Nat} : JY K (Itr lo n) m0 B0 H0 (iRow lo n) fun _ => True where
  go := fun i m B H S t rs _ hi => by rw [iRow_len] at hi; exact hi
  yl := fun i m B H S x H' d t rs _ hd y => by
    obtain ⟨rfl, rfl⟩ := y
    refine ⟨fun _ _ h => h, ?_⟩
    have hi := (List.getElem?_eq_some_iff.mp hd).1
    rw [iRow_len] at hi
    rw [iRow_get lo n i hi] at hd
    cases hd
    exact RDi _
  st := fun i m B H S t rs _ hi => by rw [iRow_len] at hi; exact hi
/-- the signs of a text -/
def signs (s : Str) : List D := s.cps.toList.map fun c => .str ⟨#[c]⟩
theorem jy_str {s : Str} : JY K (Its s) m0 B0 H0 (signs s) fun _ => True where
  go := fun i m B H S t rs _ hi => by simp [signs] at hi; exact hi
  yl := fun i m B H S x H' d t rs _ hd y => by
    obtain ⟨rfl, c, hc, rfl⟩ := y
    refine ⟨fun _ _ h => h, ?_⟩
    simp [signs] at hd
    obtain ⟨c', hc', rfl⟩ := hd
    rw [hc] at hc'
    cases hc'
    exact RDst _
  st := fun i m B H S t rs _ hi => by simp [signs] at hi; exact hi
end
/-- over a list, a tuple, a text -/
def iSeq (a : DE) : DI := fun ρ S => (a ρ S).bind fun d S1 => match d with
  | .tup ds => .ok (ds, fun _ => True) S1
  | .lst ds => .ok (ds, fun _ => True) S1
  | .scr ds => .ok (ds, fun _ => True) S1
  | .str s => .ok (signs s, fun _ => True) S1
  | .ref n => match S1[n]? with
    | some (.lst ds) => .ok (ds, fun S' => S'[n]? = some (.lst ds)) S1
    | _ => .bad
  | _ => .bad
/-- range(n), range(a, b) -/
def rgOk (i : Int) : Bool := Nat.blt i.natAbs 4611686018427387904
def iR1 (a : DE) : DI := fun ρ S => (a ρ S).bind fun d S1 => match d with
  | .int n => if rgOk n = true then .ok (iRow 0 n.toNat, fun _ => True) S1 else .bad
  | _ => .bad
def iR2 (a b : DE) : DI := fun ρ S => (a ρ S).bind fun d S1 => (b ρ S1).bind fun e S2 => match d, e with
  | .int i, .int j => if rgOk i = true ∧ rgOk j = true then .ok (iRow i (j - i).toNat, fun _ => True) S2 else .bad
  | _, _ => .bad
theorem rgOk_ok {i : Int} (h : rgOk i = true) : -(2 ^ 62) ≤ i ∧ i < 2 ^ 62 := by
  have q : i.natAbs < 4611686018427387904 := Nat.blt_eq.mp h
  omega
def fR1 : List D → Sto → R (List D × (Sto → Prop))
  | [.int n], S1 => if rgOk n = true then .ok (iRow 0 n.toNat, fun _ => True) S1 else .bad
  | _, _ => .bad
def fR2 : List D → Sto → R (List D × (Sto → Prop))
  | [.int i, .int j], S1 => if rgOk i = true ∧ rgOk j = true then .ok (iRow i (j - i).toNat, fun _ => True) S1 else .bad
  | _, _ => .bad
section
variable {X : Cx} {tg e e2 : Expr} {da db : DE} {p pos : Pos}
theorem zi_seq (h : ZE X e da) : ZI X tg e (iSeq da) := fun W tk => ⟨fun pins s σ H Q I ⟨m, B, ρ, S, rs, e, p⟩ => by
  have key : ∀ {te : TE}, True := fun {_} => trivial
  unfold iSeq at p
  cases hd : da ρ S with
  | ok d S1 =>
    rw [hd] at p
    simp only [R.bind_ok] at p
    have ev : ∀ {Q' : VK}, (∀ m1 H1 v, Ge m H m1 H1 → RS X.K m1 B H1 S1 → RD X.K m1 B H1 d v → Q' v H1) → tE W X.K da σ H Q' := fun {Q'} k => ⟨m, B, ρ, S, rs, e, by rw [hd]; exact fun m1 H1 g1 r1 v rv => k m1 H1 v g1 r1 rv⟩
    cases d <;> try exact p.elim
    · rename_i s'
      refine (pi_str (tg := tg) (h W tk)).run pins s σ H Q I (ev fun m1 H1 v g1 r1 rv => ?_)
      unfold RD at rv
      exact ⟨s', rv, p m1 H1 g1 r1 trivial _ jy_str⟩
    · rename_i ds
      refine (pi_tup (tg := tg) (h W tk)).run pins s σ H Q I (ev fun m1 H1 v g1 r1 rv => ?_)
      unfold RD at rv
      obtain ⟨a, vs, rfl, f, r⟩ := rv
      exact ⟨a, rfl, ⟨vs, f.sq⟩, p m1 H1 g1 r1 trivial _ (jy_tup f r)⟩
    · rename_i ds
      refine (pi_list (tg := tg) (h W tk)).run pins s σ H Q I (ev fun m1 H1 v g1 r1 rv => ?_)
      unfold RD at rv
      obtain ⟨a, vs, rfl, f, r⟩ := rv
      exact ⟨a, rfl, ⟨vs, f.sq⟩, p m1 H1 g1 r1 trivial _ (jy_list f.fl r)⟩
    · rename_i ds
      refine (pi_list (tg := tg) (h W tk)).run pins s σ H Q I (ev fun m1 H1 v g1 r1 rv => ?_)
      unfold RD at rv
      obtain ⟨a, vs, rfl, f, r⟩ := rv
      exact ⟨a, rfl, ⟨vs, f.sq⟩, p m1 H1 g1 r1 trivial _ (jy_list f r)⟩
    · rename_i n
      simp only at p
      split at p
      · rename_i ds hn
        refine (pi_list (tg := tg) (h W tk)).run pins s σ H Q I (ev fun m1 H1 v g1 r1 rv => ?_)
        unfold RD at rv
        obtain ⟨a, rfl, q⟩ := rv
        obtain ⟨vs, ea, r⟩ := r1.ob n a _ q hn
        exact ⟨a, rfl, ⟨vs, SqL.of ea⟩, p m1 H1 g1 r1 hn _ (jy_ref q)⟩
      · exact p.elim
  | exc c d S1 =>
    rw [hd] at p
    refine (pi_tup (tg := tg) (h W tk)).run pins s σ H Q I ⟨m, B, ρ, S, rs, e, by rw [hd]; exact p⟩
  | bad => rw [hd] at p; exact p.elim⟩
theorem zi_r1 (hm : X.mg "range" = none) (ha : ZA X [e] (aC da aN)) (hg : Gl X "range" := by rfl) (hs : starEach [e] X.env = [(false, eval e X.env)] := by rfl) : ZI X tg (.Call (.Name "range" p) [e] [] pos) (iR1 da) := fun W tk => pi_weak (pi_range1 hg hm (ha W tk) hs) fun σ H Q ⟨m, B, ρ, S, rs, e, p⟩ => by
  have p' : Post X.K m B H (fun c x H' => W c x σ H') (fun p S' m' H' => p.2 S' → ∀ J, JY X.K J m' B H' p.1 p.2 → Q J H') ((aC da aN ρ S).bind fR1) := by
    unfold iR1 at p
    unfold aC aN
    cases hd : da ρ S with
    | ok d S1 => rw [hd] at p; cases d <;> exact p
    | exc c d S1 => rw [hd] at p; exact p
    | bad => rw [hd] at p; exact p
  refine tAr.take rs e p' fun ds S1 m1 H1 vs g1 r1 e1 rds p1 => ?_
  unfold fR1 at p1
  split at p1
  · rename_i n
    split at p1
    · rename_i hn
      obtain ⟨v, rfl, rv⟩ := rds.one
      unfold RD at rv
      subst rv
      exact ⟨n, rfl, (rgOk_ok hn).1, (rgOk_ok hn).2, (p1.now r1) trivial _ jy_range⟩
    · exact p1.elim
  · exact p1.elim
theorem zi_r2 (hm : X.mg "range" = none) (ha : ZA X [e, e2] (aC da (aC db aN))) (hg : Gl X "range" := by rfl) (hs : starEach [e, e2] X.env = [(false, eval e X.env), (false, eval e2 X.env)] := by rfl) (hs2 : starEach [e2] X.env = [(false, eval e2 X.env)] := by rfl) : ZI X tg (.Call (.Name "range" p) [e, e2] [] pos) (iR2 da db) := fun W tk => pi_weak (pi_range2 hg hm (ha W tk) hs hs2) fun σ H Q ⟨m, B, ρ, S, rs, e, p⟩ => by
  have p' : Post X.K m B H (fun c x H' => W c x σ H') (fun p S' m' H' => p.2 S' → ∀ J, JY X.K J m' B H' p.1 p.2 → Q J H') ((aC da (aC db aN) ρ S).bind fR2) := by
    unfold iR2 at p
    unfold aC aN
    cases hd : da ρ S with
    | ok d S1 =>
      rw [hd] at p
      simp only [R.bind_ok] at p ⊢
      cases he : db ρ S1 with
      | ok d2 S2 => rw [he] at p; cases d <;> cases d2 <;> exact p
      | exc c d S1 => rw [he] at p; exact p
      | bad => rw [he] at p; exact p
    | exc c d S1 => rw [hd] at p; exact p
    | bad => rw [hd] at p; exact p
  refine tAr.take rs e p' fun ds S1 m1 H1 vs g1 r1 e1 rds p1 => ?_
  unfold fR2 at p1
  split at p1
  · rename_i i j
    split at p1
    · rename_i hn
      obtain ⟨v, w, rfl, rv, rw'⟩ := rds.two
      unfold RD at rv rw'
      subst rv rw'
      exact ⟨i, j, rfl, ⟨(rgOk_ok hn.1).1, (rgOk_ok hn.1).2, (rgOk_ok hn.2).1, (rgOk_ok hn.2).2⟩, (p1.now r1) trivial _ jy_range⟩
    · exact p1.elim
  · exact p1.elim
end

/-! ### for -/
open Classical in
noncomputable def forI (tg : Tg) (b : DS) (chk : Sto → Prop) : List D → DS
  | [] => fun ρ S => .nx ρ S
  | d :: ds => fun ρ S => match Tg.asg S tg d ρ with
    | none => .bad
    | some ρ1 => match b ρ1 S with
      | .nx ρ' S' => if chk S' then forI tg b chk ds ρ' S' else .bad
      | .ct ρ' S' => if chk S' then forI tg b chk ds ρ' S' else .bad
      | .bk ρ' S' => .nx ρ' S'
      | r => r
noncomputable def sFor (tg : Tg) (i : DI) (b : DS) : DS := fun ρ S => (i ρ S).to ρ fun p S1 => forI tg b p.2 p.1 ρ S1
section
open Classical
variable {X : Cx} {pos : Pos} {t iter : Expr} {body : List Stmt} {tg : Tg} {di : DI} {db : DS}
theorem zs_for (hp : PassesOwn (model X.prog X.w) X.A X.env X.xe) (hc : X.calm = true) (hi : ZI X t iter di) (hg : ZG X t tg) (hb : ZB X body db) (hs : ∀ x, foldedSetIterable iter X.env x = pure x := by intro _; rfl) : ZS X (.For t iter body [] pos) (sFor tg di db) := fun W tk =>
  ps_weak (ps_for hp hc (hi W tk) hg (hb W tk) hs) fun E σ H ⟨m, B, ρ, S, rs, e, p⟩ => by
    unfold sFor at p
    cases hd : di ρ S with
    | ok q S1 =>
      rw [hd] at p
      have p : PostS X.K m B H W E (forI tg db q.2 q.1 ρ S1) := p
      refine ⟨m, B, ρ, S, rs, e, ?_⟩
      rw [hd]
      refine fun m1 H1 g1 r1 hc0 J jy => ?_
      refine ⟨fun i k σ H => k = q.1.length - i ∧ i ≤ q.1.length ∧ ∃ m ρ S, Ge m1 H1 m H ∧ RS X.K m B H S ∧ q.2 S ∧ REs X.K m B H ρ σ ∧ PostS X.K m B H W E (forI tg db q.2 (q.1.drop i) ρ S),
        ⟨_, rfl, Nat.zero_le _, m1, ρ, S1, .refl _ _, r1, hc0, e.mono g1.tr, PostS.ge p g1⟩, ?_⟩
      rintro i k σ2 H2 ⟨rfl, hi, m2, ρ2, S2, g2, r2, hc2, e2, p2⟩
      by_cases hlt : i < q.1.length
      · refine .inr ⟨jy.go i m2 B H2 S2 g2.tr r2 hc2 hlt, fun σ H => i + 1 ≤ q.1.length ∧ ∃ m ρ S, Ge m1 H1 m H ∧ RS X.K m B H S ∧ q.2 S ∧ REs X.K m B H ρ σ ∧ PostS X.K m B H W E (forI tg db q.2 (q.1.drop (i + 1)) ρ S),
          fun σ' H' h => ⟨q.1.length - (i + 1), by omega, rfl, h⟩, fun x H3 y => ?_⟩
        rw [List.drop_eq_getElem_cons hlt] at p2
        obtain ⟨ext, rx⟩ := jy.yl i m2 B H2 S2 x H3 q.1[i] g2.tr r2 hc2 (by simp [hlt]) y
        obtain ⟨g3, r3⟩ := r2.ext ext
        have p3 := PostS.ge p2 g3
        unfold forI at p3
        cases ha : Tg.asg S2 tg q.1[i] ρ2 with
        | none => rw [ha] at p3; exact p3.elim
        | some ρ3 =>
          rw [ha] at p3
          simp only at p3
          refine ⟨m2, B, S2, _, ρ2, ρ3, r3, rx, e2.mono g3.tr, ha, fun σ3 e3 _ => ⟨m2, B, ρ3, S2, r3, e3, ?_⟩⟩
          have again : ∀ {ρ' : Env} {S' : Sto}, PostS X.K m2 B H3 W E (if q.2 S' then forI tg db q.2 (q.1.drop (i + 1)) ρ' S' else .bad) → ∀ m' H' σ', Ge m2 H3 m' H' → RS X.K m' B H' S' → REs X.K m' B H' ρ' σ' →
              i + 1 ≤ q.1.length ∧ ∃ m ρ S, Ge m1 H1 m H' ∧ RS X.K m B H' S ∧ q.2 S ∧ REs X.K m B H' ρ σ' ∧ PostS X.K m B H' W E (forI tg db q.2 (q.1.drop (i + 1)) ρ S) := fun {ρ' S'} p4 m' H' σ' g' r' e' => by
            split at p4
            · rename_i hc4
              exact ⟨hlt, m', ρ', S', (g2.trans g3).trans g', r', hc4, e', PostS.ge p4 g'⟩
            · exact p4.elim
          cases hb' : db ρ3 S2 with
          | nx ρ' S' => rw [hb'] at p3; exact again p3
          | ct ρ' S' => rw [hb'] at p3; exact again p3
          | bk ρ' S' => rw [hb'] at p3; exact p3
          | rt d S' => rw [hb'] at p3; exact p3
          | exc ρ' c d S' => rw [hb'] at p3; exact p3
          | bad => rw [hb'] at p3; exact p3
      · have e' : i = q.1.length := by omega
        subst e'
        rw [List.drop_length] at p2
        exact .inl ⟨jy.st _ m2 B H2 S2 g2.tr r2 hc2 (Nat.le_refl _), p2 m2 H2 σ2 (.refl _ _) r2 e2⟩
    | exc c d S1 =>
      rw [hd] at p
      refine ⟨m, B, ρ, S, rs, e, ?_⟩
      rw [hd]
      exact fun m1 H1 x v g1 r1 hx rv => p m1 H1 σ x v g1 r1 (e.mono g1.tr) hx rv
    | bad => rw [hd] at p; exact p.elim
end
end Z
namespace Z
open PySem L2

/-! ### list comprehensions -/
/-- nothing may be raised within -/
def R.safe {α : Type} (r : R α) : R α := match r with
  | .ok a S => .ok a S
  | _ => .bad
@[simp] theorem R.safe_ok {α : Type} (a : α) (S : Sto) : (R.ok a S).safe = .ok a S := rfl
open Classical in
/-- the items that the turns give -/
noncomputable def lcI (tg : Tg) (chk : Sto → Prop) (t : DT) (e : DE) (ρ0 : Env) : List D → Sto → R (List D)
  | [], S => .ok [] S
  | d :: ds, S => match Tg.asg S tg d ρ0 with
    | none => .bad
    | some ρ1 => (t ρ1 S).safe.bind fun k S1 => if k = true then (e ρ1 S1).safe.bind fun y S2 => if chk S2 then (lcI tg chk t e ρ0 ds S2).bind fun ys S3 => .ok (y :: ys) S3 else .bad
      else if chk S1 then lcI tg chk t e ρ0 ds S1 else .bad
noncomputable def lLc (tg : Tg) (i : DI) (t : DT) (e : DE) (vs : List Nat) : DA := fun ρ S => (i ρ S).bind fun p S1 => if p.1.length ≤ 16777216 then lcI tg p.2 t e (wipeD ρ vs) p.1 S1 else .bad
def tYes : DT := fun _ S => .ok true S
def ZTs (X : Cx) (ifs : List Expr) (den : DT) : Prop := ∀ W, Takes X W → PTs X ifs (tTe W X.K den)
theorem pts_weak {X : Cx} {e : List Expr} {t t' : TT} (h : PTs X e t) (i : ∀ σ H Q, t' σ H Q → t σ H Q) : PTs X e t' := ⟨fun pins s σ H Q I q => h.run pins s σ H Q I (i σ H Q q)⟩
abbrev WF : WX := fun _ _ _ _ => False
theorem zts_nil {X : Cx} : ZTs X [] tYes := fun W tk => pts_weak pts_nil fun σ H Q ⟨m, B, ρ, S, rs, e, p⟩ => p.now rs
theorem zts_one {X : Cx} {c : Expr} {dt : DT} (h : ZT X c dt) : ZTs X [c] dt := fun W tk => pts_one (h W tk)
theorem Post.safe {α : Type} {K : PySem.W.Frag} {m B : List Addr} {H : Hp} {W W' : Value → Option Addr → Hp → Prop} {P : α → Sto → List Addr → Hp → Prop} {r : R α} (h : Post K m B H W P r.safe) : Post K m B H W' P r := by
  cases r with
  | ok a S => exact h
  | exc c d S => exact (show False from h).elim
  | bad => exact h
def PostLF (K : PySem.W.Frag) (m B : List Addr) (H : Hp) (Q : VK) : R (List D) → Prop
  | .ok ds S' => ∀ m' H' p vs, Ge m H m' H' → RS K m' (p :: B) H' S' → p ∉ B → H p = none → H' p = some (.lst vs) → RDs K m' (p :: B) H' ds vs → Q (.ref p) H'
  | _ => False
theorem lcI_noexc {tg : Tg} {chk : Sto → Prop} {t : DT} {e : DE} {ρ0 : Env} : ∀ (ds : List D) (S : Sto), ∀ c d S', lcI tg chk t e ρ0 ds S ≠ .exc c d S'
  | [], S, c, d, S', h => by simp [lcI] at h
  | x :: ds, S, c, d, S', h => by
    unfold lcI at h
    split at h
    · cases h
    · rename_i ρ1 ha
      cases ht : t ρ1 S with
      | ok k S1 =>
        rw [ht] at h
        simp only [R.safe_ok, R.bind_ok] at h
        cases k with
        | true =>
          rw [if_pos rfl] at h
          cases he : e ρ1 S1 with
          | ok y S2 =>
            rw [he] at h
            simp only [R.safe_ok, R.bind_ok] at h
            split at h
            · cases hr : lcI tg chk t e ρ0 ds S2 with
              | ok ys S3 => rw [hr] at h; cases h
              | exc c' d' S3 => exact lcI_noexc ds S2 _ _ _ hr
              | bad => rw [hr] at h; cases h
            · cases h
          | exc _ _ _ => rw [he] at h; cases h
          | bad => rw [he] at h; cases h
        | false =>
          rw [if_neg Bool.false_ne_true] at h
          split at h
          · exact lcI_noexc ds S1 _ _ _ h
          · cases h
      | exc _ _ _ => rw [ht] at h; cases h
      | bad => rw [ht] at h; cases h
theorem lcI_len {tg : Tg} {chk : Sto → Prop} {t : DT} {e : DE} {ρ0 : Env} : ∀ (ds : List D) (S : Sto) ys S', lcI tg chk t e ρ0 ds S = .ok ys S' → ys.length ≤ ds.length
  | [], S, ys, S', h => by simp [lcI] at h; simp [h.1.symm]
  | x :: ds, S, ys, S', h => by
    unfold lcI at h
    split at h
    · cases h
    · rename_i ρ1 ha
      cases ht : t ρ1 S with
      | ok k S1 =>
        rw [ht] at h
        simp only [R.safe_ok, R.bind_ok] at h
        cases k with
        | true =>
          rw [if_pos rfl] at h
          cases he : e ρ1 S1 with
          | ok y S2 =>
            rw [he] at h
            simp only [R.safe_ok, R.bind_ok] at h
            split at h
            · cases hr : lcI tg chk t e ρ0 ds S2 with
              | ok ys' S3 =>
                rw [hr] at h
                have h' : R.ok (y :: ys') S3 = R.ok ys S' := h
                cases h'
                have := lcI_len ds S2 ys' _ hr
                simp only [List.length_cons]
                omega
              | exc _ _ _ => rw [hr] at h; cases h
              | bad => rw [hr] at h; cases h
            · cases h
          | exc _ _ _ => rw [he] at h; cases h
          | bad => rw [he] at h; cases h
        | false =>
          rw [if_neg Bool.false_ne_true] at h
          split at h
          · have := lcI_len ds S1 ys _ h
            simp only [List.length_cons]
            omega
          · cases h
      | exc _ _ _ => rw [ht] at h; cases h
      | bad => rw [ht] at h; cases h
/-- the walk of a comprehension's loop -/
theorem lc_core2 {K : PySem.W.Frag} {tg : Tg} {dt : DT} {de : DE} {vs : List Nat} {ρ : Env} {σ : L2.St} {J : It} {ds : List D} {chk : Sto → Prop} {m0 B : List Addr} {H0 : Hp} {S0 : Sto} {Q : VK} (rs : RS K m0 B H0 S0) (e : REs K m0 B H0 ρ σ) (hc : chk S0) (jy : JY K J m0 B H0 ds chk) (hix : ∀ i ∈ tg.ix, i ∈ vs)
    (hz : ds.length ≤ 16777216) (p : PostLF K m0 B H0 Q (lcI tg chk dt de (wipeD ρ vs) ds S0)) : ∀ Dl, H0 Dl = none → ∃ W : Nat → Nat → Hp → Prop, (∃ m, W 0 m (upd H0 Dl (.lst []))) ∧ ∀ i m H, W i m H →
      (J.stop i H ∧ Q (.ref Dl) H) ∨ (J.go i H ∧ ∃ Nx : Hp → Prop, (∀ H', Nx H' → ∃ m', m' < m ∧ W (i + 1) m' H') ∧ ∀ x H', J.yld i H x H' → gT K tg x (wipe σ vs) H' fun σ2 H2 => wipe σ2 vs = wipe σ vs ∧ tTe WF K dt σ2 H2 fun b H3 =>
        if b = true then tE WF K de σ2 H3 fun y H4 => ∃ acc, H4 Dl = some (.lst acc) ∧ acc.length < sizeLine ∧ Nx (upd H4 Dl (.lst (acc ++ [y]))) else Nx H3) := by
  intro Dl hD
  have hDm : Dl ∉ m0 := rs.notin hD
  have hDB : Dl ∉ B := rs.notB hD
  -- the state at turn i
  let St := fun (i : Nat) (H : Hp) => i ≤ ds.length ∧ ∃ m S acc va, Ge m0 H0 m H ∧ Tr m0 B H0 m (Dl :: B) H ∧ RS K m (Dl :: B) H S ∧ chk S ∧ H Dl = some (.lst va) ∧ RDs K m (Dl :: B) H acc va ∧ acc.length ≤ i ∧
    PostLF K m0 B H0 Q ((lcI tg chk dt de (wipeD ρ vs) (ds.drop i) S).bind fun ys S' => .ok (acc ++ ys) S')
  refine ⟨fun i k H => k = ds.length - i ∧ St i H, ⟨_, rfl, Nat.zero_le _, m0, S0, [], [], (rs.new hD).1, Tr.ban hD, rs.ban hD, hc, upd_same, RDs.nil, Nat.le_refl _, ?_⟩, ?_⟩
  · show PostLF K m0 B H0 Q ((lcI tg chk dt de (wipeD ρ vs) ds S0).bind fun ys S' => .ok ys S')
    cases h : lcI tg chk dt de (wipeD ρ vs) ds S0 with
    | ok ys S' => rw [h] at p; exact p
    | exc c d S' => rw [h] at p; exact p
    | bad => rw [h] at p; exact p
  · rintro i k H ⟨rfl, hi, m, S, acc, va, g, tr, r, hch, hl, ra, hla, p2⟩
    by_cases hlt : i < ds.length
    · refine .inr ⟨jy.go i m (Dl :: B) H S tr r hch hlt, St (i + 1), fun H' h => ⟨ds.length - (i + 1), by omega, rfl, h⟩, fun x H3 y => ?_⟩
      obtain ⟨ext, rx⟩ := jy.yl i m (Dl :: B) H S x H3 ds[i] tr r hch (by simp [hlt]) y
      obtain ⟨g3, r3⟩ := r.ext ext
      rw [List.drop_eq_getElem_cons hlt] at p2
      unfold lcI at p2
      have ew : REs K m (Dl :: B) H3 (wipeD ρ vs) (wipe σ vs) := (e.mono (tr.trans g3.tr)).wipe vs
      cases ha : Tg.asg S tg ds[i] (wipeD ρ vs) with
      | none => rw [ha] at p2; exact (show False from p2).elim
      | some ρ1 =>
        rw [ha] at p2
        simp only at p2
        refine ⟨m, Dl :: B, S, _, wipeD ρ vs, ρ1, r3, rx, ew, ha, fun σ2 e2 sam => ⟨by rw [sam vs hix, wipe_wipe], m, Dl :: B, ρ1, S, r3, e2, ?_⟩⟩
        cases ht : dt ρ1 S with
        | exc _ _ _ => rw [ht] at p2; exact (show False from p2).elim
        | bad => rw [ht] at p2; exact (show False from p2).elim
        | ok b S1 =>
          rw [ht] at p2
          simp only [R.safe_ok, R.bind_ok] at p2
          refine fun m4 H4 g4 r4 => ?_
          have hl4 : H4 Dl = some (.lst va) := (g4.keep Dl _ (fun q => r3.dis Dl q (List.mem_cons_self ..)) (ext _ _ hl)).2
          have ra4 := RDs.mono (g3.tr.trans g4.tr) _ _ ra
          cases b with
          | false =>
            rw [if_neg Bool.false_ne_true] at p2
            show St (i + 1) H4
            split at p2
            · rename_i hc1
              exact ⟨hlt, m4, S1, acc, va, (g.trans g3).trans g4, (tr.trans g3.tr).trans g4.tr, r4, hc1, hl4, ra4, by omega, p2⟩
            · exact (show False from p2).elim
          | true =>
            rw [if_pos rfl] at p2
            show tE WF K de σ2 H4 _
            refine ⟨m4, Dl :: B, ρ1, S1, r4, e2.mono g4.tr, ?_⟩
            cases he : de ρ1 S1 with
            | exc _ _ _ => rw [he] at p2; exact (show False from p2).elim
            | bad => rw [he] at p2; exact (show False from p2).elim
            | ok y S2 =>
              rw [he] at p2
              simp only [R.safe_ok, R.bind_ok] at p2
              refine fun m5 H5 g5 r5 v rv => ?_
              have hl5 : H5 Dl = some (.lst va) := (g5.keep Dl _ (fun q => r4.dis Dl q (List.mem_cons_self ..)) hl4).2
              have ra5 := RDs.mono g5.tr _ _ ra4
              split at p2
              · rename_i hc2
                refine ⟨va, hl5, ?_, hlt, m5, S2, acc ++ [y], va ++ [v], ?_, ?_, ?_, hc2, upd_same, ?_, ?_, ?_⟩
                · rw [← ra5.len, sizeLine_eq]
                  omega
                · have g6 := ((g.trans g3).trans g4).trans g5
                  exact ⟨g6.pre, fun b o hb q => ⟨(g6.keep b o hb q).1, by rw [upd_ne (ne_of_none q hD)]; exact (g6.keep b o hb q).2⟩⟩
                · exact (((tr.trans g3.tr).trans g4.tr).trans g5.tr).trans (Tr.chg (List.mem_cons_self ..))
                · exact r5.chg (List.mem_cons_self ..)
                · exact RDs.mono (Tr.chg (List.mem_cons_self ..)) _ _ (ra5.app (RDs.cons rv RDs.nil))
                · simp
                  omega
                · cases hr : lcI tg chk dt de (wipeD ρ vs) (ds.drop (i + 1)) S2 with
                  | ok ys S3 =>
                    rw [hr] at p2
                    simp only [R.bind_ok, List.append_assoc, List.singleton_append] at p2 ⊢
                    exact p2
                  | exc _ _ _ => rw [hr] at p2; exact (show False from p2).elim
                  | bad => rw [hr] at p2; exact (show False from p2).elim
              · exact (show False from p2).elim
    · have e' : i = ds.length := by omega
      subst e'
      rw [List.drop_length] at p2
      simp only [lcI, R.bind_ok, List.append_nil] at p2
      exact .inl ⟨jy.st _ m (Dl :: B) H S tr r hch (Nat.le_refl _), p2 m H Dl va g r hDB hD hl ra⟩
section
variable {X : Cx} {pos spos : Pos} {elt t iter : Expr} {ifs : List Expr} {scope : Scope} {own : List (Str × Nat)} {tg : Tg} {di : DI} {dt : DT} {de : DE}
theorem tlc_weak {K : PySem.W.Frag} {W : WX} {vs : List Nat} (hix : ∀ i ∈ tg.ix, i ∈ vs) (σ : L2.St) (H : Hp) (Q : VK) (h : tL W K (lLc tg di dt de vs) σ H Q) : tLc (tI W K di) (gT K tg) (tTe WF K dt) (tE WF K de) vs σ H Q := by
  obtain ⟨m, B, ρ, S, rs, e, p⟩ := h
  refine ⟨m, B, ρ, S, rs, e, ?_⟩
  unfold lLc at p
  cases hd : di ρ S with
  | ok q S1 =>
    rw [hd] at p
    simp only [R.bind_ok] at p
    refine fun m1 H1 g1 r1 hc J jy => ?_
    split at p
    · rename_i hz
      refine lc_core2 r1 (e.mono g1.tr) hc jy hix hz ?_
      cases h : lcI tg q.2 dt de (wipeD ρ vs) q.1 S1 with
      | ok ys S' =>
        rw [h] at p
        refine fun m2 H2 pp va g2 r2 hB h0 h2 rv => p m2 H2 pp va (g1.trans g2) r2 hB ?_ h2 rv
        exact g1.new_was (r1.notin h0) h0
      | exc c d S' => exact absurd h (lcI_noexc _ _ _ _ _)
      | bad => rw [h] at p; exact p
    · exact (show False from p).elim
  | exc c d S1 => rw [hd] at p; exact p
  | bad => rw [hd] at p; exact p
theorem zl_lc (hc : X.calm = true) (hN : X.N.Nodup) (hi : ZI X t iter di) (ok : BlkOk X.N X.env.scope scope own) (hix : ∀ i ∈ tg.ix, i ∈ own.map (·.2))
    (hg : ∀ (s : Shared) (H : Hp) (C : Addr) (cl : List (Str × Addr)) (fp : List Addr), ZG (X.blk s H scope (compEnvC scope cl C X.env) fp) t tg) (ht : ∀ (s : Shared) (H : Hp) (C : Addr) (cl : List (Str × Addr)) (fp : List Addr), ZTs (X.blk s H scope (compEnvC scope cl C X.env) fp) ifs dt)
    (he : ∀ (s : Shared) (H : Hp) (C : Addr) (cl : List (Str × Addr)) (fp : List Addr), ZE (X.blk s H scope (compEnvC scope cl C X.env) fp) elt de) (hs : ∀ x, foldedSetIterable iter X.env x = pure x := by intro _; rfl) :
    ZL X (.ListComp elt [⟨t, iter, ifs, 0⟩] scope pos) (lLc tg di dt de (own.map (·.2))) := fun W tk =>
  pe_weak (pe_lc (g := gT X.K tg) (tt := tTe WF X.K dt) (te := tE WF X.K de) hc hN (hi W tk) ok (fun s H C cl fp => hg s H C cl fp) (fun s H C cl fp => ht s H C cl fp WF takes0) (fun s H C cl fp => he s H C cl fp WF takes0) hs) fun σ H Q h => tlc_weak hix σ H Q h
/-- y = [..], the list a value | put into the store -/
theorem zs_setLc {i : Nat} {y : Str} {py : Pos} {new : Bool} (hc : X.calm = true) (hN : X.N.Nodup) (hi : ZI X t iter di) (ok : BlkOk X.N X.env.scope scope own) (hix : ∀ i ∈ tg.ix, i ∈ own.map (·.2))
    (hg : ∀ (s : Shared) (H : Hp) (C : Addr) (cl : List (Str × Addr)) (fp : List Addr), ZG (X.blk s H scope (compEnvC scope cl C X.env) fp) t tg) (ht : ∀ (s : Shared) (H : Hp) (C : Addr) (cl : List (Str × Addr)) (fp : List Addr), ZTs (X.blk s H scope (compEnvC scope cl C X.env) fp) ifs dt)
    (he : ∀ (s : Shared) (H : Hp) (C : Addr) (cl : List (Str × Addr)) (fp : List Addr), ZE (X.blk s H scope (compEnvC scope cl C X.env) fp) elt de) (hy : X.N[i]? = some y := by rfl) (hyl : X.env.scope.names.lookup y = some .local := by rfl)
    (hsw : swapsWith (.ListComp elt [⟨t, iter, ifs, 0⟩] scope pos) (some (.Name y py)) spos.line X.env = pure true := by exact sw_true rfl rfl rfl (by decide +kernel)) (hs : ∀ x, foldedSetIterable iter X.env x = pure x := by intro _; rfl) :
    ZS X (.Assign [.Name y py] (.ListComp elt [⟨t, iter, ifs, 0⟩] scope pos) spos) (sSet i (if new = true then eLN (lLc tg di dt de (own.map (·.2))) else eLV (lLc tg di dt de (own.map (·.2))))) := fun W tk =>
  ps_weak (ps_setLc (g := gT X.K tg) (tt := tTe WF X.K dt) (te := tE WF X.K de) hc hN hy hyl hsw (hi W tk) ok (fun s H C cl fp => hg s H C cl fp) (fun s H C cl fp => ht s H C cl fp WF takes0) (fun s H C cl fp => he s H C cl fp WF takes0) hs) fun E σ H ⟨m, B, ρ, S, rs, e, p⟩ => by
    refine tlc_weak hix σ H _ ?_
    cases new with
    | true => exact tl_ln (tE.takeS (da := eLN (lLc tg di dt de (own.map (·.2)))) rs e p fun d S1 m1 H1 v g1 r1 e1 rd p1 => p1 m1 H1 _ (.refl _ _) r1 (e1.set i rd))
    | false => exact tl_lv (tE.takeS (da := eLV (lLc tg di dt de (own.map (·.2)))) rs e p fun d S1 m1 H1 v g1 r1 e1 rd p1 => p1 m1 H1 _ (.refl _ _) r1 (e1.set i rd))
end
end Z
namespace Z
open PySem L2

/-! ### what names nothing beyond the first n of the store -/
mutual
def D.cl (n : Nat) : D → Prop
  | .tup ds => D.cls n ds
  | .lst ds => D.cls n ds
  | .scr ds => D.cls n ds
  | .ref k => k < n
  | _ => True
def D.cls (n : Nat) : List D → Prop
  | [] => True
  | d :: ds => D.cl n d ∧ D.cls n ds
end
def FsCl {κ : Type} (n : Nat) : List (κ × D) → Prop
  | [] => True
  | p :: fs => p.2.cl n ∧ FsCl n fs
def O.cl (n : Nat) : O → Prop
  | .lst ds => D.cls n ds
  | .ins _ fs => FsCl n fs
  | .dct kvs => FsCl n kvs
  | .dcT kvs => FsCl n kvs
  | .iset _ _ => True
def ClS (n : Nat) (S : Sto) : Prop := ∀ o ∈ S, O.cl n o
section
variable {K : PySem.W.Frag} {m mG B : List Addr} {H : Hp}
mutual
theorem RD.cl : ∀ {d : D} {v : V}, RD K m B H d v → d.cl m.length
  | .non, _, _ | .bl _, _, _ | .int _, _, _ | .str _, _, _ | .adr _, _, _ | .ty _, _, _ => by unfold D.cl; trivial
  | .tup ds, _, h => by unfold RD at h; obtain ⟨a, vs, _, _, r⟩ := h; unfold D.cl; exact RDs.cls r
  | .lst ds, _, h => by unfold RD at h; obtain ⟨a, vs, _, _, r⟩ := h; unfold D.cl; exact RDs.cls r
  | .scr ds, _, h => by unfold RD at h; obtain ⟨a, vs, _, _, r⟩ := h; unfold D.cl; exact RDs.cls r
  | .ref n, _, h => by unfold RD at h; obtain ⟨a, _, q⟩ := h; unfold D.cl; exact (List.getElem?_eq_some_iff.mp q).1
theorem RDs.cls : ∀ {ds : List D} {vs : List V}, RDs K m B H ds vs → D.cls m.length ds
  | [], _, _ => by unfold D.cls; trivial
  | d :: ds, _, h => by unfold RDs at h; obtain ⟨x, r, _, h1, h2⟩ := h; unfold D.cls; exact ⟨RD.cl h1, RDs.cls h2⟩
end
theorem RFs.cl {κ : Type} : ∀ {fs : List (κ × D)} {vs : List (κ × V)}, RFs K m B H fs vs → FsCl m.length fs
  | [], _, _ => trivial
  | p :: fs, _, ⟨x, r, _, h1, h2⟩ => ⟨RD.cl h1, RFs.cl h2⟩
theorem RS.cl {S : Sto} (r : RS K m B H S) : ClS S.length S := fun o ho => by
  obtain ⟨n, hn⟩ := List.mem_iff_getElem?.mp ho
  obtain ⟨a, ha, q⟩ := r.at hn
  rw [← r.len]
  cases o with
  | lst ds => obtain ⟨vs, _, rv⟩ := q; exact RDs.cls rv
  | ins C fs => obtain ⟨dx, vs, _, rv⟩ := q; exact RFs.cl rv
  | dct kvs => obtain ⟨vs, _, rv⟩ := q; exact RFs.cl rv
  | dcT kvs => obtain ⟨vs, _, rv⟩ := q; exact RFs.cl rv
  | iset p n => trivial
mutual
theorem RD.drop : ∀ {d : D} {v : V}, RD K (m ++ mG) B H d v → d.cl m.length → RD K m B H d v
  | .non, _, h, _ | .bl _, _, h, _ | .int _, _, h, _ | .str _, _, h, _ | .adr _, _, h, _ | .ty _, _, h, _ => by unfold RD at h ⊢; exact h
  | .tup ds, _, h, c => by
    unfold RD at h ⊢
    unfold D.cl at c
    obtain ⟨a, vs, e, f, r⟩ := h
    exact ⟨a, vs, e, f.elim (fun q => .inl ⟨fun z => q.1 (List.mem_append_left _ z), q.2⟩) .inr, RDs.dropG r c⟩
  | .lst ds, _, h, c => by
    unfold RD at h ⊢
    unfold D.cl at c
    obtain ⟨a, vs, e, f, r⟩ := h
    exact ⟨a, vs, e, ⟨fun z => f.1 (List.mem_append_left _ z), f.2⟩, RDs.dropG r c⟩
  | .scr ds, _, h, c => by
    unfold RD at h ⊢
    unfold D.cl at c
    obtain ⟨a, vs, e, f, r⟩ := h
    exact ⟨a, vs, e, f.elim (fun q => .inl ⟨fun z => q.1 (List.mem_append_left _ z), q.2⟩) .inr, RDs.dropG r c⟩
  | .ref n, _, h, c => by
    unfold RD at h ⊢
    unfold D.cl at c
    obtain ⟨a, e, q⟩ := h
    exact ⟨a, e, by rw [List.getElem?_append_left c] at q; exact q⟩
theorem RDs.dropG : ∀ {ds : List D} {vs : List V}, RDs K (m ++ mG) B H ds vs → D.cls m.length ds → RDs K m B H ds vs
  | [], _, h, _ => by unfold RDs at h ⊢; exact h
  | d :: ds, _, h, c => by
    unfold RDs at h ⊢
    unfold D.cls at c
    obtain ⟨x, r, e, h1, h2⟩ := h
    exact ⟨x, r, e, RD.drop h1 c.1, RDs.dropG h2 c.2⟩
end
theorem RFs.drop {κ : Type} : ∀ {fs : List (κ × D)} {vs : List (κ × V)}, RFs K (m ++ mG) B H fs vs → FsCl m.length fs → RFs K m B H fs vs
  | [], _, h, _ => h
  | p :: fs, _, ⟨x, r, e, h1, h2⟩, c => ⟨x, r, e, RD.drop h1 c.1, RFs.drop h2 c.2⟩
theorem RS.dropG {S G : Sto} (r : RS K (m ++ mG) B H (S ++ G)) (hl : m.length = S.length) (c : ClS S.length S) : RS K m B H S := by
  refine ⟨hl, (List.nodup_append.mp r.nd).1, fun a ha => r.dis a (List.mem_append_left _ ha), r.bn, fun n a o h1 h2 => ?_⟩
  have hn : n < m.length := (List.getElem?_eq_some_iff.mp h1).1
  have q := r.ob n a o (by rw [List.getElem?_append_left hn]; exact h1) (by rw [List.getElem?_append_left (by rw [← hl]; exact hn)]; exact h2)
  have co := c o (List.mem_of_getElem? h2)
  rw [← hl] at co
  cases o with
  | lst ds => obtain ⟨vs, e, rv⟩ := q; exact ⟨vs, e, RDs.dropG rv co⟩
  | ins C fs => obtain ⟨dx, vs, e, rv⟩ := q; exact ⟨dx, vs, e, RFs.drop rv co⟩
  | dct kvs => obtain ⟨vs, e, rv⟩ := q; exact ⟨vs, e, RFs.drop rv co⟩
  | dcT kvs => obtain ⟨vs, e, rv⟩ := q; exact ⟨vs, e, RFs.drop rv co⟩
  | iset p n => exact q
end
/-- r', what a def's body comes to, is what r says, but for things of the store that nothing names -/
def Ref (S0 : Sto) (r r' : R D) : Prop := match r with
  | .ok d S => r' = .ok d S ∨ ∃ G, r' = .ok d (S ++ G) ∧ S0.length ≤ S.length ∧ d.cl S.length ∧ ClS S.length S
  | .exc c d S => r' = .exc c d S ∨ ∃ G, r' = .exc c d (S ++ G) ∧ S0.length ≤ S.length ∧ d.cl S.length ∧ ClS S.length S
  | .bad => True
theorem Ref.same {S0 : Sto} {r r' : R D} (h : r' = r) : Ref S0 r r' := by
  subst h
  cases r' with
  | ok d S => exact .inl rfl
  | exc c d S => exact .inl rfl
  | bad => trivial
theorem split_pre {m m' : List Addr} {n : Nat} (g : ∃ l, m' = m ++ l) (h1 : m.length ≤ n) (h2 : n ≤ m'.length) : ∃ a b, m' = a ++ b ∧ a.length = n ∧ ∃ l, a = m ++ l := by
  obtain ⟨l, rfl⟩ := g
  refine ⟨m ++ l.take (n - m.length), l.drop (n - m.length), by rw [List.append_assoc, List.take_append_drop], ?_, _, rfl⟩
  rw [List.length_append, List.length_take]
  rw [List.length_append] at h2
  omega
theorem Ref.post {K : PySem.W.Frag} {m B : List Addr} {H : Hp} {W : Value → Option Addr → Hp → Prop} {Q : VK} {S0 : Sto} {r r' : R D} (rs : RS K m B H S0) (h : Ref S0 r r') (p : Post K m B H W (fun d _ m' H' => ∀ v, RD K m' B H' d v → Q v H') r) :
    Post K m B H W (fun d _ m' H' => ∀ v, RD K m' B H' d v → Q v H') r' := by
  cases r with
  | bad => exact p.elim
  | ok d S =>
    rcases h with rfl | ⟨G, rfl, h1, h2, h3⟩
    · exact p
    · refine fun m' H' g r' v rv => ?_
      obtain ⟨a, b, rfl, hl, pre⟩ := split_pre g.pre (by rw [rs.len]; exact h1) (by rw [r'.len]; simp)
      have g' : Ge m H a H' := ⟨pre, fun x o hx e => ⟨fun z => (g.keep x o hx e).1 (List.mem_append_left _ z), (g.keep x o hx e).2⟩⟩
      exact p a H' g' (r'.dropG hl h3) v (RD.drop rv (by rw [hl]; exact h2))
  | exc c d S =>
    rcases h with rfl | ⟨G, rfl, h1, h2, h3⟩
    · exact p
    · refine fun m' H' x v g r' hx rv => ?_
      obtain ⟨a, b, rfl, hl, pre⟩ := split_pre g.pre (by rw [rs.len]; exact h1) (by rw [r'.len]; simp)
      have g' : Ge m H a H' := ⟨pre, fun x o hx e => ⟨fun z => (g.keep x o hx e).1 (List.mem_append_left _ z), (g.keep x o hx e).2⟩⟩
      exact p a H' x v g' (r'.dropG hl h3) hx (RD.drop rv (by rw [hl]; exact h2))

/-! ### a def by its body -/
def env0 (N : Nat) (ds : List D) : Env := ds.map some ++ List.replicate (N - ds.length) none
/-- what the body comes to -/
def runB (N : Nat) (den : DS) (ds : List D) (S : Sto) : R D := match den (env0 N ds) S with
  | .nx _ S' => .ok .non S'
  | .rt d S' => .ok d S'
  | .exc _ c d S' => .exc c d S'
  | _ => .bad
theorem REs.start {K : PySem.W.Frag} {m B : List Addr} {H : Hp} : ∀ {ds : List D} {vs : List V}, RDs K m B H ds vs → ∀ k, REs K m B H (ds.map some ++ List.replicate k none) (vs.map some ++ List.replicate k none)
  | [], _, h, k => by
    unfold RDs at h
    subst h
    show REs K m B H (List.replicate k none) (List.replicate k none)
    induction k with
    | zero => rfl
    | succ k ih => exact ⟨none, _, rfl, fun d q => (nomatch q), ih⟩
  | d :: ds, _, h, k => by
    unfold RDs at h
    obtain ⟨x, r, rfl, h1, h2⟩ := h
    exact ⟨some x, _, rfl, fun d' q => ⟨x, rfl, by cases q; exact h1⟩, REs.start h2 k⟩
theorem tS_run {K : PySem.W.Frag} {N : List Str} {den : DS} {m B : List Addr} {H : Hp} {ds : List D} {vs : List V} {S : Sto} {Q : VK} {E : XK} (rs : RS K m B H S) (rd : RDs K m B H ds vs) (p : Post K m B H E (fun d _ m' H' => ∀ v, RD K m' B H' d v → Q v H') (runB N.length den ds S)) :
    tS (fun c x _ H' => E c x H') K den { nx := fun _ H' => Q .non H', rt := Q } (L2.start N vs) H := by
  refine ⟨m, B, env0 N.length ds, S, rs, ?_, ?_⟩
  · unfold env0 L2.start
    rw [rd.len]
    exact REs.start rd _
  · unfold runB at p
    cases hd : den (env0 N.length ds) S with
    | nx ρ S' => rw [hd] at p; exact fun m' H' σ' g r e => p m' H' g r .non RDn
    | rt d S' => rw [hd] at p; exact fun m' H' v g r rv => p m' H' g r v rv
    | bk ρ S' => rw [hd] at p; exact p.elim
    | ct ρ S' => rw [hd] at p; exact p.elim
    | exc ρ c d S' => rw [hd] at p; exact fun m' H' σ' x v g r e hx rv => p m' H' x v g r hx rv
    | bad => rw [hd] at p; exact p.elim
/-- what holds of the context of a def's body -/
structure Good (X : Cx) (k : Nat) : Prop where
  room : Room k X.A
  calm : X.calm = true
  pass : PassesOwn (model X.prog X.w) X.A X.env X.xe
section
variable {P : Program} {w : World} {K : PySem.W.Frag} {mg : Str → Option Value} {base : Heap} {x qual : Str} {params : Arguments} {body : List Stmt} {scope : Scope} {dvs : List V} {kws : List (Str × V)} {f : Addr} {fd : FuncData}
theorem zfn {N ps : List Str} {k n : Nat} {den : DS} {F : List D → Sto → R D} (fdd : FunD K x qual params body scope dvs kws f fd) (S : FnScope N ps scope) (hn : ps.length = n)
    (hb : ∀ (cdv : Value) (A : Around) (outer : List PySem.Env) (s : Shared) (H : Hp) (E : XK), Good (cxOf (L2.CX P w) P w K mg base N qual scope f cdv A outer s H E) k → ZB (cxOf (L2.CX P w) P w K mg base N qual scope f cdv A outer s H E) body den)
    (imp : ∀ ds S, ds.length = n → ClS S.length S → D.cls S.length ds → Ref S (F ds S) (runB N.length den ds S)) : FnOk P w K mg base (L2.CX P w) (k + 1) f fd ps (spI K n F) := by
  refine fdd.ok S (fun vs H Q E h => by rw [hn]; exact spI_len h) fun cdv A outer s H vs Q E hr h => ?_
  obtain ⟨m, B, ds, S', rs, rd, hl, p⟩ := h
  refine ⟨_, hb cdv A outer s H E ⟨hr, rfl, passes_of rfl⟩ (fun c x _ H' => E c x H') (takes_of rfl rfl rfl rfl), ?_⟩
  refine tS_run rs rd ((imp ds S' hl rs.cl ?_).post rs p)
  rw [← rs.len]
  exact RDs.cls rd
end
end Z
namespace Z
open PySem L2

/-! ### more numbers -/
section
variable {X : Cx} {pos : Pos} {a b c : Expr} {da db dc : DE}
def mulOk (i j : Int) : Bool := decide (i.natAbs < 18446744073709551616 ∨ j.natAbs < 18446744073709551616 ∨ i.natAbs.log2 + j.natAbs.log2 < 1000000)
def divOk (_i j : Int) : Bool := decide (0 < j ∧ j.natAbs.log2 < 9000)
def powOk (i j : Int) : Bool := decide (0 ≤ j ∧ j ≤ 1000000 ∧ i.natAbs < 18446744073709551616)
def fMul := fI (fun i j => .int (i * j)) mulOk
def fDiv := fI (fun i j => .int (i / j)) divOk
def fPow := fI (fun i j => .int (i ^ j.toNat)) powOk
theorem mul_any {i j : Int} (h : mulOk i j = true) : IntMulOk i j := by
  rcases of_decide_eq_true h with h | h | h
  · exact CMul.ok (.inl ⟨by omega, by omega⟩)
  · exact CMul.ok (.inr ⟨by omega, by omega⟩)
  · exact CMulW.ok h
theorem ze_mul (ha : ZE X a da) (hb : ZE X b db) : ZE X (.BinOp a .Mult b pos) (e2 fMul da db) := ze_op (r := rI (fun i j => mulOk i j = true) fun i j => .int (i * j)) (opI fun _ _ _ _ _ _ _ hc q => PyProof.Rows.mul_int q (mul_any hc)) (okI (fun _ _ h => h) fun _ _ _ _ _ => RDi _) ha hb
theorem ze_fdiv (ha : ZE X a da) (hb : ZE X b db) : ZE X (.BinOp a .FloorDiv b pos) (e2 fDiv da db) := ze_op op_fdivW (okI (fun i j h => (of_decide_eq_true h : 0 < j ∧ j.natAbs.log2 < 9000)) fun _ _ _ _ _ => RDi _) ha hb
theorem ze_pow (ha : ZE X a da) (hb : ZE X b db) : ZE X (.BinOp a .Pow b pos) (e2 fPow da db) := ze_op op_pow (okI (fun _ _ h => by
  have q := of_decide_eq_true h
  exact ⟨q.1, q.2.1, q.2.2⟩) fun _ _ _ _ _ => RDi _) ha hb
def fNeg : D → Sto → R D
  | .int i, S => .ok (.int (-i)) S
  | _, _ => .bad
theorem okNeg {K : PySem.W.Frag} : OkUn K (rU fun i => .int (-i)) fNeg := by
  intro m B H S d x W Q rs rd p
  cases d <;> try exact p.elim
  rename_i i
  unfold RD at rd
  subst rd
  exact ⟨i, rfl, p.now rs _ (RDi _)⟩
theorem ze_neg (ha : ZE X a da) : ZE X (.UnaryOp .USub a pos) (e1 fNeg da) := ze_un un_neg okNeg ha

/-! ### a + b: numbers, texts, tuples -/
def fPlus : D → D → Sto → R D
  | .int i, .int j, S => .ok (.int (i + j)) S
  | .str i, .str j, S => if i.length + j.length ≤ 16777216 then .ok (.str (i ++ j)) S else .bad
  | .tup xs, .tup ys, S => if xs.length + ys.length ≤ 16777216 then .ok (.tup (xs ++ ys)) S else .bad
  | .int i, .bl k, S => .ok (.int (i + PyProof.Rows.b2i k)) S
  | _, _, _ => .bad
def rPlusA (K : PySem.W.Frag) : R2 := fun x y H Q => (((∃ i j : Int, x = .int i ∧ y = .int j ∧ Q (.int (i + j)) H) ∨ (∃ i j, x = .str i ∧ y = .str j ∧ i.length + j.length ≤ sizeLine ∧ Q (.str (i ++ j)) H)) ∨ rCatA K x y H Q) ∨ (∃ i k, x = .int i ∧ y = .bl k ∧ Q (.int (i + PyProof.Rows.b2i k)) H)
theorem op_plusA : OpR X (binaryOp .Add) (rPlusA X.K) := ((op_add.or op_add_str).or op_catA).or op_add_ib
theorem okPlus {K : PySem.W.Frag} : OkOp K (rPlusA K) fPlus := by
  intro m B H S d e x y W Q rs rd re p
  cases d with
  | int i =>
    cases e with
    | int j => unfold RD at rd re; subst rd re; exact .inl (.inl (.inl ⟨i, j, rfl, rfl, p.now rs _ (RDi _)⟩))
    | bl j => unfold RD at rd re; subst rd re; exact .inr ⟨i, j, rfl, rfl, p.now rs _ (RDi _)⟩
    | _ => exact p.elim
  | str i =>
    cases e with
    | str j =>
      unfold RD at rd re
      subst rd re
      have p : Post K m B H W (fun d _ m' H' => ∀ v, RD K m' B H' d v → Q v H') (if i.length + j.length ≤ 16777216 then .ok (.str (i ++ j)) S else .bad) := p
      split at p
      · rename_i h
        exact .inl (.inl (.inr ⟨i, j, rfl, rfl, by rw [sizeLine_eq]; exact h, p.now rs _ (RDst _)⟩))
      · exact p.elim
    | _ => exact p.elim
  | tup xs =>
    cases e with
    | tup ys =>
      have rd' := rd
      have re' := re
      unfold RD at rd re
      obtain ⟨a, vs, rfl, f, r⟩ := rd
      obtain ⟨b, ws, rfl, f2, r2⟩ := re
      have p : Post K m B H W (fun d _ m' H' => ∀ v, RD K m' B H' d v → Q v H') (if xs.length + ys.length ≤ 16777216 then .ok (.tup (xs ++ ys)) S else .bad) := p
      split at p
      · rename_i h
        refine .inl (.inr ⟨a, b, vs, ws, rfl, rfl, f.sq, f2.sq, by rw [← r.len, ← r2.len, sizeLine_eq]; exact h, fun e0 => ?_, fun _ e0 => ?_, fun _ _ q hq => ?_⟩)
        · have : xs = [] := List.length_eq_zero_iff.mp (by rw [r.len, e0]; rfl)
          rw [this] at p
          exact p.now rs _ re'
        · have : ys = [] := List.length_eq_zero_iff.mp (by rw [r2.len, e0]; rfl)
          rw [this, List.append_nil] at p
          exact p.now rs _ rd'
        · obtain ⟨g2, r3⟩ := rs.new (u := .tup (vs ++ ws)) hq
          refine p m _ g2 r3 _ ?_
          unfold RD
          exact ⟨q, vs ++ ws, rfl, .inl ⟨rs.notin hq, rs.notB hq, .inl upd_same⟩, RDs.mono g2.tr _ _ (r.app r2)⟩
      · exact p.elim
    | _ => exact p.elim
  | _ => cases e <;> exact p.elim
theorem ze_plus (ha : ZE X a da) (hb : ZE X b db) : ZE X (.BinOp a .Add b pos) (e2 fPlus da db) := ze_op op_plusA okPlus ha hb

/-! ### a < b < c -/
def eChain (f g : D → D → Sto → R D) (a b c : DE) : DE := fun ρ S => (a ρ S).bind fun x S1 => (b ρ S1).bind fun y S2 => (f x y S2).bind fun z S3 => match z with
  | .bl k => if k = true then (c ρ S3).bind fun w S4 => g y w S4 else .ok (.bl false) S3
  | _ => .bad
/-- a test that is True or False -/
def tVB (a : DE) : DT := fun ρ S => (a ρ S).bind fun d S1 => match d with
  | .bl b => .ok b S1
  | _ => .bad
theorem te_bool {W : WX} {K : PySem.W.Frag} {σ : L2.St} {H : Hp} {Q : Bool → Hp → Prop} {m B : List Addr} {ρ : Env} {S : Sto} (rs : RS K m B H S) (e : REs K m B H ρ σ) (p : Post K m B H (fun c x H' => W c x σ H') (fun b _ _ H' => Q b H') (tVB da ρ S)) : tE W K da σ H fun x H' => ∃ k, x = .bl k ∧ Q k H' :=
  tE.takeA rs e p fun d S1 m1 H1 v g1 r1 e1 rd p1 => by
    cases d <;> try exact p1.elim
    rename_i b
    unfold RD at rd
    exact ⟨b, rd, p1.now r1⟩
theorem zt_cmp {op : CmpOp} {r : R2} {f : D → D → Sto → R D} (ho : OpR X (compareOp op) r) (h : OkOp X.K r f) (ha : ZE X a da) (hb : ZE X b db) (hm : behindInMarks op b = false) : ZT X (.Compare a [op] [b] pos) (tVB (e2 f da db)) := fun W tk => pt_weak (pt_cmpR ho (ha W tk) (hb W tk) hm) fun σ H Q ⟨m, B, ρ, S, rs, e, p⟩ => te_op h σ H _ (te_bool rs e p)
theorem zt_lt (ha : ZE X a da) (hb : ZE X b db) : ZT X (.Compare a [.Lt] [b] pos) (tVB (e2 fLt da db)) := zt_cmp op_lt (okI0 fun _ _ _ _ _ => RDb _) ha hb (nomark _)
theorem zt_le (ha : ZE X a da) (hb : ZE X b db) : ZT X (.Compare a [.LtE] [b] pos) (tVB (e2 fLe da db)) := zt_cmp op_le (okI0 fun _ _ _ _ _ => RDb _) ha hb (nomark _)
theorem zt_gt (ha : ZE X a da) (hb : ZE X b db) : ZT X (.Compare a [.Gt] [b] pos) (tVB (e2 fGt da db)) := zt_cmp op_gt (okI0 fun _ _ _ _ _ => RDb _) ha hb (nomark _)
theorem zt_ge (ha : ZE X a da) (hb : ZE X b db) : ZT X (.Compare a [.GtE] [b] pos) (tVB (e2 fGe da db)) := zt_cmp op_ge (okI0 fun _ _ _ _ _ => RDb _) ha hb (nomark _)
theorem zt_eq (hu : X.A.units + 64 < cLine) (ha : ZE X a da) (hb : ZE X b db) : ZT X (.Compare a [.Eq] [b] pos) (tVB (e2 fEq da db)) := zt_cmp (op_eqD hu) okEq ha hb (nomark _)
theorem zt_ne (hu : X.A.units + 64 < cLine) (ha : ZE X a da) (hb : ZE X b db) : ZT X (.Compare a [.NotEq] [b] pos) (tVB (e2 fNe da db)) := zt_cmp (op_neD hu) okNe ha hb (nomark _)
theorem zt_in (hu : X.A.units + 65 < cLine) (ha : ZE X a da) (hb : ZE X b db) (hm : behindInMarks .In b = false := by rfl) : ZT X (.Compare a [.In] [b] pos) (tVB (e2 fIn da db)) := zt_cmp (op_inD hu) okIn ha hb hm
theorem zt_notin (hu : X.A.units + 65 < cLine) (ha : ZE X a da) (hb : ZE X b db) (hm : behindInMarks .NotIn b = false := by rfl) : ZT X (.Compare a [.NotIn] [b] pos) (tVB (e2 fNotIn da db)) := zt_cmp (op_notInD hu) okNotIn ha hb hm
theorem zt_isB (ha : ZE X a da) (hb : ZE X b db) : ZT X (.Compare a [.Is] [b] pos) (tVB (e2 fIsB da db)) := zt_cmp op_isBl okIsB ha hb (nomark _)
theorem zt_isN {j : Nat} {p2 : Pos} (ha : ZE X a da) : ZT X (.Compare a [.Is] [.Constant .none j p2] pos) (tVB (e1 fIsN da)) := fun W tk => pt_weak (pt_cmp (pc_isN (ha W tk)) rfl) fun σ H Q ⟨m, B, ρ, S, rs, e, p⟩ =>
  have q : tE W X.K (e1 fIsN da) σ H fun x H' => ∃ k, x = .bl k ∧ Q k H' := te_bool rs e p
  let ⟨m, B, ρ, S, rs, e, p⟩ := q
  tE.takeA rs e p fun d S1 m1 H1 v g1 r1 e1 rd p1 => by
    rw [rd.isN]
    cases d <;> exact p1.now r1 _ (RDb _)
theorem zt_notN {j : Nat} {p2 : Pos} (ha : ZE X a da) : ZT X (.Compare a [.IsNot] [.Constant .none j p2] pos) (tVB (e1 fNotN da)) := fun W tk => pt_weak (pt_cmp (pc_notN (ha W tk)) rfl) fun σ H Q ⟨m, B, ρ, S, rs, e, p⟩ =>
  have q : tE W X.K (e1 fNotN da) σ H fun x H' => ∃ k, x = .bl k ∧ Q k H' := te_bool rs e p
  let ⟨m, B, ρ, S, rs, e, p⟩ := q
  tE.takeA rs e p fun d S1 m1 H1 v g1 r1 e1 rd p1 => by
    rw [rd.isN]
    cases d <;> exact p1.now r1 _ (RDb _)
theorem te_chain {W : WX} {K : PySem.W.Frag} {r r' : R2} {f g : D → D → Sto → R D} (hf : OkOp K r f) (hg : OkOp K r' g) (σ : L2.St) (H : Hp) (Q : VK) : tE W K (eChain f g da db dc) σ H Q → tChain r r' (tE W K da) (tE W K db) (tE W K dc) σ H Q := fun ⟨m, B, ρ, S, rs, e, p⟩ =>
  tE.takeA rs e p fun x S1 m1 H1 v g1 r1 e1 rx p1 => tE.takeA r1 e1 p1 fun y S2 m2 H2 u g2 r2 e2 ry p2 => by
    refine hf m2 B H2 S2 x y v u (fun c x H' => W c x σ H') _ r2 (rx.mono g2.tr) ry ?_
    refine (Post.bind p2).imp fun z S3 m3 H3 g3 r3 p3 w rw => ?_
    cases z <;> try exact p3.elim
    rename_i k
    unfold RD at rw
    refine ⟨k, rw, ?_⟩
    cases k with
    | false => exact p3.now r3 _ (RDb _)
    | true => exact tE.takeA r3 (e2.mono g3.tr) p3 fun w' S4 m4 H4 u4 g4 r4 e4 r4' p4 => hg m4 B H4 S4 y w' u u4 _ Q r4 (ry.mono (g3.tr.trans g4.tr)) r4' p4
theorem ze_chain {op op' : CmpOp} {r r' : R2} {f g : D → D → Sto → R D} (ho : OpR X (compareOp op) r) (ho' : OpR X (compareOp op') r') (hf : OkOp X.K r f) (hg : OkOp X.K r' g) (ha : ZE X a da) (hb : ZE X b db) (hc : ZE X c dc)
    (hm : lastMarks [op, op'] [b, c] = false := by with_unfolding_all rfl) : ZE X (.Compare a [op, op'] [b, c] pos) (eChain f g da db dc) := fun W tk => pe_weak (pe_chain ho ho' (ha W tk) (hb W tk) (hc W tk) hm) (te_chain hf hg)
theorem zt_chain {op op' : CmpOp} {r r' : R2} {f g : D → D → Sto → R D} (ho : OpR X (compareOp op) r) (ho' : OpR X (compareOp op') r') (hf : OkOp X.K r f) (hg : OkOp X.K r' g) (ha : ZE X a da) (hb : ZE X b db) (hc : ZE X c dc)
    (hm : lastMarks [op, op'] [b, c] = false := by with_unfolding_all rfl) : ZT X (.Compare a [op, op'] [b, c] pos) (tVB (eChain f g da db dc)) := fun W tk => pt_weak (pt_chain ho ho' (ha W tk) (hb W tk) (hc W tk) hm) fun σ H Q ⟨m, B, ρ, S, rs, e, p⟩ =>
  te_chain hf hg σ H _ (te_bool rs e p)
theorem ze_lele (ha : ZE X a da) (hb : ZE X b db) (hc : ZE X c dc) (hm : lastMarks [.LtE, .LtE] [b, c] = false := by with_unfolding_all rfl) : ZE X (.Compare a [.LtE, .LtE] [b, c] pos) (eChain fLe fLe da db dc) := ze_chain op_le op_le (okI0 fun _ _ _ _ _ => RDb _) (okI0 fun _ _ _ _ _ => RDb _) ha hb hc hm
theorem ze_lelt (ha : ZE X a da) (hb : ZE X b db) (hc : ZE X c dc) (hm : lastMarks [.LtE, .Lt] [b, c] = false := by with_unfolding_all rfl) : ZE X (.Compare a [.LtE, .Lt] [b, c] pos) (eChain fLe fLt da db dc) := ze_chain op_le op_lt (okI0 fun _ _ _ _ _ => RDb _) (okI0 fun _ _ _ _ _ => RDb _) ha hb hc hm
theorem zt_lele (ha : ZE X a da) (hb : ZE X b db) (hc : ZE X c dc) (hm : lastMarks [.LtE, .LtE] [b, c] = false := by with_unfolding_all rfl) : ZT X (.Compare a [.LtE, .LtE] [b, c] pos) (tVB (eChain fLe fLe da db dc)) := zt_chain op_le op_le (okI0 fun _ _ _ _ _ => RDb _) (okI0 fun _ _ _ _ _ => RDb _) ha hb hc hm
theorem zt_lelt (ha : ZE X a da) (hb : ZE X b db) (hc : ZE X c dc) (hm : lastMarks [.LtE, .Lt] [b, c] = false := by with_unfolding_all rfl) : ZT X (.Compare a [.LtE, .Lt] [b, c] pos) (tVB (eChain fLe fLt da db dc)) := zt_chain op_le op_lt (okI0 fun _ _ _ _ _ => RDb _) (okI0 fun _ _ _ _ _ => RDb _) ha hb hc hm
end

/-! ### slices -/
abbrev DO := Env → Sto → R (Option Int)
def tOp1 (W : WX) (K : PySem.W.Frag) (den : DO) : TO := fun σ H Q => ∃ m B ρ S, RS K m B H S ∧ REs K m B H ρ σ ∧ Post K m B H (fun c x H' => W c x σ H') (fun o _ _ H' => Q o H') (den ρ S)
def ZO (X : Cx) (e : Option Expr) (den : DO) : Prop := ∀ W, Takes X W → PO X e (tOp1 W X.K den)
def oN : DO := fun _ S => .ok none S
def oS (a : DE) : DO := fun ρ S => (a ρ S).bind fun d S1 => match d with
  | .int i => .ok (some i) S1
  | _ => .bad
theorem po_weak {X : Cx} {e : Option Expr} {t t' : TO} (h : PO X e t) (i : ∀ σ H Q, t' σ H Q → t σ H Q) : PO X e t' := ⟨fun pins s σ H Q I q => h.run pins s σ H Q I (i σ H Q q)⟩
theorem tOp1.take {β : Type} {W : WX} {K : PySem.W.Frag} {da : DO} {f : Option Int → Sto → R β} {σ : L2.St} {H : Hp} {Q' : Option Int → Hp → Prop} {m B : List Addr} {ρ : Env} {S : Sto} {P : β → Sto → List Addr → Hp → Prop} (r : RS K m B H S) (e : REs K m B H ρ σ)
    (h : Post K m B H (fun c x H' => W c x σ H') P ((da ρ S).bind f))
    (k : ∀ d S1 m1 H1, Ge m H m1 H1 → RS K m1 B H1 S1 → REs K m1 B H1 ρ σ → Post K m1 B H1 (fun c x H' => W c x σ H') P (f d S1) → Q' d H1) : tOp1 W K da σ H Q' :=
  ⟨m, B, ρ, S, r, e, (Post.bind h).imp fun d S1 m1 H1 g1 r1 p => k d S1 m1 H1 g1 r1 (e.mono g1.tr) p⟩
section
variable {X : Cx} {pos p2 : Pos} {e : Expr} {lo hi : Option Expr} {de : DE} {dl dh : DO}
theorem zo_none : ZO X none oN := fun W tk => po_weak po_none fun σ H Q ⟨m, B, ρ, S, rs, e, p⟩ => p.now rs
theorem zo_some (h : ZE X e de) : ZO X (some e) (oS de) := fun W tk => po_weak (po_some (h W tk)) fun σ H Q ⟨m, B, ρ, S, rs, e, p⟩ => tE.takeA rs e p fun d S1 m1 H1 v g1 r1 e1 rd p1 => by
  cases d <;> try exact p1.elim
  rename_i i
  unfold RD at rd
  exact ⟨i, rd, p1.now r1⟩
def cutA {α : Type} (xs : List α) (lo hi : Option Int) : List α := (xs.drop (HT.sIx xs.length 0 lo)).take (HT.sIx xs.length xs.length hi - HT.sIx xs.length 0 lo)
theorem cutA_V (xs : List V) (lo hi : Option Int) : cutA xs lo hi = cutV xs lo hi := rfl
theorem RDs.cut {K : PySem.W.Frag} {m B : List Addr} {H : Hp} {ds : List D} {vs : List V} (h : RDs K m B H ds vs) (lo hi : Option Int) : RDs K m B H (cutA ds lo hi) (cutV vs lo hi) := by
  unfold cutA cutV
  rw [h.len]
  exact RDs.take _ (RDs.drop _ h)
/-- xs[lo:hi] of a list: a new list -/
def lSl (a : DE) (l h : DO) : DA := fun ρ S => (a ρ S).bind fun d S1 => (l ρ S1).bind fun i S2 => (h ρ S2).bind fun j S3 => match lstOf S3 d with
  | some ds => .ok (cutA ds i j) S3
  | none => .bad
theorem zl_slice (he : ZE X e de) (hl : ZO X lo dl) (hh : ZO X hi dh) : ZL X (.Subscript e (.Slice lo hi none p2) pos) (lSl de dl dh) := fun W tk => pe_weak (pe_slice sl_list (he W tk) (hl W tk) (hh W tk)) fun σ H Q ⟨m, B, ρ, S, rs, e, p⟩ => by
  unfold lSl at p
  refine ⟨m, B, ρ, S, rs, e, ?_⟩
  cases h1 : de ρ S with
  | bad => rw [h1] at p; exact p
  | exc c d S' => rw [h1] at p; exact p
  | ok d S1 =>
    rw [h1] at p
    simp only [R.bind_ok] at p
    intro m1 H1 g1 r1 v rv
    refine ⟨m1, B, ρ, S1, r1, e.mono g1.tr, ?_⟩
    cases h2 : dl ρ S1 with
    | bad => rw [h2] at p; exact p
    | exc c d S' => rw [h2] at p; exact fun m2 H2 x v g2 => p m2 H2 x v (g1.trans g2)
    | ok i S2 =>
      rw [h2] at p
      simp only [R.bind_ok] at p
      intro m2 H2 g2 r2
      refine ⟨m2, B, ρ, S2, r2, e.mono (g1.tr.trans g2.tr), ?_⟩
      cases h3 : dh ρ S2 with
      | bad => rw [h3] at p; exact p
      | exc c d S' => rw [h3] at p; exact fun m3 H3 x v g3 => p m3 H3 x v ((g1.trans g2).trans g3)
      | ok j S3 =>
        rw [h3] at p
        simp only [R.bind_ok] at p
        intro m3 H3 g3 r3
        have rv3 := rv.mono (g2.tr.trans g3.tr)
        cases hs : lstOf S3 d with
        | none => rw [hs] at p; exact p.elim
        | some ds =>
          rw [hs] at p
          obtain ⟨a, vs, rfl, sq, r⟩ := lstOf_ok r3 rv3 hs
          have gg := (g1.trans g2).trans g3
          refine ⟨a, vs, rfl, sq, fun q hq => ?_⟩
          exact p m3 _ q (cutV vs i j) (gg.trans (r3.new hq).1) (r3.ban hq) (r3.notB hq) (gg.new_was (r3.notin hq) hq) upd_same (RDs.mono (Tr.ban hq) _ _ (r.cut i j))
/-- t[lo:hi] of a tuple, of a text -/
def fSl (d : D) (i j : Option Int) (S : Sto) : R D := match d with
  | .tup ds => .ok (.tup (cutA ds i j)) S
  | .str z => if z.length ≤ 16777216 then .ok (.str (cutS z i j)) S else .bad
  | _ => .bad
def eSl (a : DE) (l h : DO) : DE := fun ρ S => (a ρ S).bind fun d S1 => (l ρ S1).bind fun i S2 => (h ρ S2).bind fun j S3 => fSl d i j S3
theorem cutA_all {α : Type} (xs : List α) (lo hi : Option Int) (h : HT.sIx xs.length 0 lo = 0 ∧ HT.sIx xs.length xs.length hi = xs.length) : cutA xs lo hi = xs := by
  unfold cutA
  rw [h.1, h.2]
  simp
theorem ze_slice (he : ZE X e de) (hl : ZO X lo dl) (hh : ZO X hi dh) : ZE X (.Subscript e (.Slice lo hi none p2) pos) (eSl de dl dh) := fun W tk => pe_weak (pe_slice (sl_tupA.or sl_str) (he W tk) (hl W tk) (hh W tk)) fun σ H Q ⟨m, B, ρ, S, rs, e, p⟩ =>
  tE.takeA rs e p fun d S1 m1 H1 v g1 r1 e1 rd p1 => tOp1.take r1 e1 p1 fun i S2 m2 H2 g2 r2 e2 p2 => tOp1.take r2 e2 p2 fun j S3 m3 H3 g3 r3 e3 p3 => by
    have rd3 := rd.mono (g2.tr.trans g3.tr)
    cases d <;> try exact p3.elim
    · rename_i z
      have p3 : Post X.K m3 B H3 (fun c x H' => W c x σ H') (fun d _ m' H' => ∀ v, RD X.K m' B H' d v → Q v H') (if z.length ≤ 16777216 then .ok (.str (cutS z i j)) S3 else .bad) := p3
      unfold RD at rd3
      split at p3
      · rename_i hz
        exact .inr ⟨z, rd3, by rw [sizeLine_eq]; exact hz, p3.now r3 _ (RDst _)⟩
      · exact p3.elim
    · rename_i ds
      have rd4 := rd3
      unfold RD at rd3
      obtain ⟨a, vs, rfl, f, r⟩ := rd3
      refine .inl ⟨a, vs, rfl, f.sq, fun hw => ?_, fun _ q hq => ?_⟩
      · rw [← r.len] at hw
        have p4 : Post X.K m3 B H3 _ _ (R.ok (D.tup (cutA ds i j)) S3) := p3
        rw [cutA_all _ _ _ hw] at p4
        exact p4.now r3 _ rd4
      · obtain ⟨g4, r4⟩ := r3.new (u := .tup (cutV vs i j)) hq
        refine (show Post X.K m3 B H3 _ _ (R.ok (D.tup (cutA ds i j)) S3) from p3) m3 _ g4 r4 _ ?_
        unfold RD
        exact ⟨q, _, rfl, .inl ⟨r3.notin hq, r3.notB hq, .inl upd_same⟩, RDs.mono g4.tr _ _ (r.cut i j)⟩
/-- xs[::-1] of a list -/
def lRev (a : DE) : DA := fun ρ S => (a ρ S).bind fun d S1 => match lstOf S1 d with
  | some ds => .ok ds.reverse S1
  | none => .bad
theorem zl_rev {k : Nat} {p1 p4 : Pos} (he : ZE X e de) : ZL X (.Subscript e (.Slice none none (some (.UnaryOp .USub (.Constant (.int 1) k p1) p2)) p4) pos) (lRev de) := fun W tk => pe_weak (pe_revL (he W tk)) fun σ H Q ⟨m, B, ρ, S, rs, e, p⟩ => by
  unfold lRev at p
  refine ⟨m, B, ρ, S, rs, e, ?_⟩
  cases h1 : de ρ S with
  | bad => rw [h1] at p; exact p
  | exc c d S' => rw [h1] at p; exact p
  | ok d S1 =>
    rw [h1] at p
    simp only [R.bind_ok] at p
    intro m1 H1 g1 r1 v rv
    cases hs : lstOf S1 d with
    | none => rw [hs] at p; exact p.elim
    | some ds =>
      rw [hs] at p
      obtain ⟨a, vs, rfl, sq, r⟩ := lstOf_ok r1 rv hs
      refine ⟨a, vs, rfl, sq, fun q hq => ?_⟩
      exact p m1 _ q vs.reverse (g1.trans (r1.new hq).1) (r1.ban hq) (r1.notB hq) (g1.new_was (r1.notin hq) hq) upd_same (RDs.mono (Tr.ban hq) _ _ r.rev)
end

/-! ### a, b = e1, e2 -/
section
variable {X : Cx} {pos : Pos} {a b : Expr} {da db : DE}
theorem zs_par {i j : Nat} {x y : Str} {px py pt : Pos} {kt k2 pt2} (hc : X.calm = true) (hN : X.N.Nodup) (ha : ZE X a da) (hb : ZE X b db) (hi : X.N[i]? = some x := by rfl) (hj : X.N[j]? = some y := by rfl) (hij : i ≠ j := by decide)
    (hx : X.env.scope.names.lookup x = some .local := by rfl) (hy : X.env.scope.names.lookup y = some .local := by rfl)
    (hw : swappedStores [.Tuple [.Name x px, .Name y py] kt pt] (.Tuple [a, b] k2 pt2) X.env = pure (some [x, y]) := by rfl)
    (hs : swapsWithSole [.Tuple [.Name x px, .Name y py] kt pt] (.Tuple [a, b] k2 pt2) pos.line X.env = pure false := by rfl)
    (hs1 : starEach [a, b] X.env = (false, eval a X.env) :: starEach [b] X.env := by rfl) (hs2 : starEach [b] X.env = (false, eval b X.env) :: starEach [] X.env := by rfl) :
    ZS X (.Assign [.Tuple [.Name x px, .Name y py] kt pt] (.Tuple [a, b] k2 pt2) pos) (sPar i j da db) := fun W tk => ps_weak (ps_par hc hN hi hj hij hx hy ((za_cons ha (za_cons hb za_nil hs2) hs1) W tk) hw hs) fun E σ H ⟨m, B, ρ, S, rs, e, p⟩ => by
  unfold sPar at p
  refine ⟨m, B, ρ, S, rs, e, ?_⟩
  unfold aC
  cases h1 : da ρ S with
  | bad => rw [h1] at p; exact p
  | exc c d S' => rw [h1] at p; exact fun m' H' x v g r hx rv => p m' H' σ x v g r (e.mono g.tr) hx rv
  | ok d S1 =>
    rw [h1] at p
    simp only [R.to_ok, R.bind_ok] at p ⊢
    cases h2 : db ρ S1 with
    | bad => rw [h2] at p; exact p
    | exc c d S' => rw [h2] at p; exact fun m' H' x v g r hx rv => p m' H' σ x v g r (e.mono g.tr) hx rv
    | ok d2 S2 =>
      rw [h2] at p
      refine fun m1 H1 g1 r1 vs rv => ?_
      obtain ⟨v, w, rfl, rv, rw'⟩ := rv.two
      exact ⟨v, w, rfl, p m1 H1 _ g1 r1 (((e.mono g1.tr).set i rv).set j rw')⟩
end
end Z
namespace Z
open PySem L2

/-! ### xs[i] = value -/
def sPut (a o i : DE) : DS := fun ρ S => (a ρ S).to ρ fun d S1 => (o ρ S1).to ρ fun x S2 => (i ρ S2).to ρ fun y S3 => match x, y with
  | .ref n, .int k => match S3[n]? with
    | some (.lst ds) => match ixN ds.length k with
      | some j => .nx ρ (S3.set n (.lst (ds.set j d)))
      | none => .bad
    | _ => .bad
  | _, _ => .bad
section
variable {X : Cx} {pos p1 : Pos} {a o i : Expr} {da dobj di : DE}
theorem zs_put (ha : ZE X a da) (ho : ZE X o dobj) (hi : ZE X i di) (hs : swapsWithSole [.Subscript o i p1] a pos.line X.env = pure false := by rfl) (hw : swappedStores [.Subscript o i p1] a X.env = pure none := by rfl)
    (h1 : (assignEach [.Subscript o i p1] X.env).map (·.2) = [assign (.Subscript o i p1) X.env] := by rfl)
    (hg : ∀ v, assign (.Subscript o i p1) X.env v = (do
      let ov ← holding [v] (eval o X.env)
      let iv ← holding [v, ov] (eval i X.env)
      standAt p1
      holding [v, ov, iv] (setItem ov iv v)
      release [v, ov, iv] []) := by intro _; rfl) : ZS X (.Assign [.Subscript o i p1] a pos) (sPut da dobj di) := fun W tk =>
  ps_weak (ps_asg (ha W tk) (pg_sub (ho W tk) (hi W tk) set_list hg) hs hw h1) fun E σ H ⟨m, B, ρ, S, rs, e, p⟩ =>
    tE.takeS rs e p fun d S1 m1 H1 v g1 r1 e1 rd p1 => tE.takeS r1 e1 p1 fun x S2 m2 H2 xv g2 r2 e2 rx p2 => tE.takeS r2 e2 p2 fun y S3 m3 H3 yv g3 r3 e3 ry p3 => by
      cases x <;> try exact p3.elim
      rename_i n
      cases y <;> try exact p3.elim
      rename_i k
      have rd3 := rd.mono (g2.tr.trans g3.tr)
      have rx3 := rx.mono g3.tr
      unfold RD at rx3 ry
      obtain ⟨q, rfl, hq⟩ := rx3
      simp only at p3
      split at p3
      · rename_i ds hn
        split at p3
        · rename_i j hj
          obtain ⟨vs, hv, rv⟩ := r3.ob n q _ hq hn
          refine ⟨q, vs, k, j, rfl, ry, hv, by rw [← rv.len]; exact hj, ?_⟩
          obtain ⟨g4, r4⟩ := r3.put (u := .lst (vs.set j v)) (o := .lst (ds.set j d)) hq fun H' g h' => ⟨_, h', RDs.set j (RDs.mono g.tr _ _ rv) (rd3.mono g.tr)⟩
          exact p3 m3 _ σ g4 r4 (e3.mono g4.tr)
        · exact p3.elim
      · exact p3.elim
end

/-! ### methods of a list of the store -/
def isL (S : Sto) : D → Bool
  | .ref n => match S[n]? with
    | some (.lst _) => true
    | _ => false
  | _ => false
def eBM (f : D → List D → Sto → R D) (o : DE) (r : DA) : DE := fun ρ S => (o ρ S).bind fun d S1 => if isL S1 d = true then (r ρ S1).bind fun ds S2 => f d ds S2 else .bad
def OkM (K : PySem.W.Frag) (r : V → List V → Hp → VK → Prop) (f : D → List D → Sto → R D) : Prop := ∀ m B H S d ds x vs (W : Value → Option Addr → Hp → Prop) (Q : VK), RS K m B H S → RD K m B H d x → RDs K m B H ds vs → Post K m B H W (fun d _ m' H' => ∀ v, RD K m' B H' d v → Q v H') (f d ds S) → r x vs H Q
theorem isL_ty {K : PySem.W.Frag} {m B : List Addr} {H : Hp} {S : Sto} {d : D} {v : V} (rs : RS K m B H S) (rd : RD K m B H d v) (h : isL S d = true) : tyV K "list" v H := by
  cases d <;> try (cases h; done)
  rename_i n
  unfold RD at rd
  obtain ⟨a, rfl, q⟩ := rd
  simp only [isL] at h
  split at h
  · rename_i ds hn
    obtain ⟨vs, hv, rv⟩ := rs.ob n a _ q hn
    exact .inl ⟨rfl, vs, SqL.of hv⟩
  · cases h
section
variable {X : Cx} {pos apos : Pos} {o e : Expr} {es : List Expr} {dobj : DE} {t : DA} {nm : Str} {id : String} {r : V → List V → Hp → VK → Prop} {f : D → List D → Sto → R D}
theorem ze_bm (sl : Slot "list" nm id) (hty : typeOf (.builtin id) = pure (.type "method_descriptor")) (hm : MtR X id r) (ok : OkM X.K r f) (ho : ZE X o dobj) (ha : ZA X (e :: es) t) (hb : attributeBase o nm X.env (eval o X.env) = eval o X.env := by rfl)
    (hfew : ((backTo pos (starEach (e :: es) X.env)).all (fun x => !x.1) && (backToKw pos (keywordEach [] X.env)).all (fun x => x.1.isSome) && decide ((e :: es).length + ([] : List Keyword).length + (if ([] : List Keyword).isEmpty then 0 else 1) < 30)) = true := by rfl)
    (hl : (apos.endLine == pos.line) = true := by rfl) (hs : starEach (e :: es) X.env = (false, eval e X.env) :: starEach es X.env := by rfl) (hp : (backTo pos (starEach es X.env)).any (·.1) = false := by rfl) : ZE X (.Call (.Attribute o nm apos) (e :: es) [] pos) (eBM f dobj t) := fun W tk =>
  pe_weak (pe_bm PySem.F.plainAttrs_list sl hty hm (ho W tk) (ha W tk) hb hfew hl hs hp) fun σ H Q ⟨m, B, ρ, S, rs, e, p⟩ => tE.takeA rs e p fun d S1 m1 H1 v g1 r1 e1 rd p1 => by
    split at p1
    · rename_i hL
      exact ⟨isL_ty r1 rd hL, tAr.take r1 e1 p1 fun ds S2 m2 H2 vs g2 r2 e2 rds p2 => ok m2 B H2 S2 d ds v vs _ Q r2 (rd.mono g2.tr) rds p2⟩
    · exact p1.elim
theorem ze_bm0 (sl : Slot "list" nm id) (hty : typeOf (.builtin id) = pure (.type "method_descriptor")) (hm : MtR X id r) (ok : OkM X.K r f) (ho : ZE X o dobj) (hb : attributeBase o nm X.env (eval o X.env) = eval o X.env := by rfl) (hl : (apos.endLine == pos.line) = true := by rfl) :
    ZE X (.Call (.Attribute o nm apos) [] [] pos) (eBM f dobj aN) := fun W tk =>
  pe_weak (pe_bm0 PySem.F.plainAttrs_list sl hty hm (ho W tk) hb hl) fun σ H Q ⟨m, B, ρ, S, rs, e, p⟩ => tE.takeA rs e p fun d S1 m1 H1 v g1 r1 e1 rd p1 => by
    split at p1
    · rename_i hL
      exact ⟨isL_ty r1 rd hL, ok m1 B H1 S1 d [] v [] _ Q r1 rd RDs.nil p1⟩
    · exact p1.elim
end
def fApp : D → List D → Sto → R D
  | .ref n, [x], S => match S[n]? with
    | some (.lst ds) => if ds.length < 16777216 then .ok .non (S.set n (.lst (ds ++ [x]))) else .bad
    | _ => .bad
  | _, _, _ => .bad
def fPop : D → List D → Sto → R D
  | .ref n, [], S => match S[n]? with
    | some (.lst ds) => match ds[ds.length - 1]? with
      | some x => .ok x (S.set n (.lst ds.dropLast))
      | none => .bad
    | _ => .bad
  | _, _, _ => .bad
section
variable {K : PySem.W.Frag}
theorem okApp : OkM K rAppend fApp := by
  intro m B H S d ds x vs W Q rs rd rds p
  cases d <;> try exact p.elim
  rename_i n
  match ds, rds, p with
  | [], _, p => exact p.elim
  | _ :: _ :: _, _, p => exact p.elim
  | [y], rds, p =>
    obtain ⟨w, rfl, rw'⟩ := rds.one
    unfold RD at rd
    obtain ⟨a, rfl, hq⟩ := rd
    simp only [fApp] at p
    split at p
    · rename_i ds hn
      split at p
      · rename_i hz
        obtain ⟨us, hv, rv⟩ := rs.ob n a _ hq hn
        refine ⟨a, us, w, rfl, rfl, hv, by rw [← rv.len, sizeLine_eq]; exact hz, ?_⟩
        obtain ⟨g4, r4⟩ := rs.put (u := .lst (us ++ [w])) (o := .lst (ds ++ [y])) hq fun H' g h' => ⟨_, h', RDs.mono g.tr _ _ (rv.app (RDs.cons rw' RDs.nil))⟩
        exact p m _ g4 r4 _ RDn
      · exact p.elim
    · exact p.elim
theorem RDs.lastx {m B : List Addr} {H : Hp} {ds : List D} {vs : List V} {d : D} (h : RDs K m B H ds vs) (e : ds[ds.length - 1]? = some d) : ∃ v, vs[vs.length - 1]? = some v ∧ RD K m B H d v := by
  rw [← h.len]
  exact h.get e
theorem okPop : OkM K rPop fPop := by
  intro m B H S d ds x vs W Q rs rd rds p
  cases d <;> try exact p.elim
  rename_i n
  match ds, rds, p with
  | _ :: _, _, p => exact p.elim
  | [], rds, p =>
    unfold RDs at rds
    unfold RD at rd
    obtain ⟨a, rfl, hq⟩ := rd
    simp only [fPop] at p
    split at p
    · rename_i ds hn
      split at p
      · rename_i y hy
        obtain ⟨us, hv, rv⟩ := rs.ob n a _ hq hn
        obtain ⟨w, hw, rw'⟩ := rv.lastx hy
        refine ⟨a, us, w, rfl, rds, hv, hw, ?_⟩
        obtain ⟨g4, r4⟩ := rs.put (u := .lst us.dropLast) (o := .lst ds.dropLast) hq fun H' g h' => ⟨_, h', RDs.mono g.tr _ _ rv.dropLast⟩
        exact p m _ g4 r4 w (rw'.mono g4.tr)
      · exact p.elim
    · exact p.elim
end
section
variable {X : Cx} {pos apos : Pos} {o e : Expr} {dobj : DE} {t : DA}
theorem ze_app (ho : ZE X o dobj) (ha : ZA X [e] t) (hb : attributeBase o "append" X.env (eval o X.env) = eval o X.env := by rfl)
    (hfew : ((backTo pos (starEach [e] X.env)).all (fun x => !x.1) && (backToKw pos (keywordEach [] X.env)).all (fun x => x.1.isSome) && decide ([e].length + ([] : List Keyword).length + (if ([] : List Keyword).isEmpty then 0 else 1) < 30)) = true := by rfl)
    (hl : (apos.endLine == pos.line) = true := by rfl) (hs : starEach [e] X.env = (false, eval e X.env) :: starEach [] X.env := by rfl) : ZE X (.Call (.Attribute o "append" apos) [e] [] pos) (eBM fApp dobj t) :=
  ze_bm PySem.F.slot_list_append PySem.F.type_list_append mt_append okApp ho ha hb hfew hl hs
theorem ze_pop (ho : ZE X o dobj) (hb : attributeBase o "pop" X.env (eval o X.env) = eval o X.env := by rfl) (hl : (apos.endLine == pos.line) = true := by rfl) : ZE X (.Call (.Attribute o "pop" apos) [] [] pos) (eBM fPop dobj aN) :=
  ze_bm0 PySem.F.slot_list_pop PySem.F.type_list_pop mt_pop okPop ho hb hl
end

/-! ### o.f = value -/
def putD (f : Str) (d : D) : List (Str × D) → List (Str × D)
  | [] => [(f, d)]
  | p :: r => if p.1 = f then (p.1, d) :: r else p :: putD f d r
theorem RFs.put {K : PySem.W.Frag} {m B : List Addr} {H : Hp} {f : Str} {d : D} {v : V} (h : RD K m B H d v) : ∀ {fs : List (Str × D)} {vs : List (Str × V)}, RFs K m B H fs vs → RFs K m B H (putD f d fs) (putF f v vs)
  | [], _, q => by
    have q' : _ = _ := q
    subst q'
    exact ⟨v, [], rfl, h, rfl⟩
  | p :: fs, _, ⟨x, r, e, h1, h2⟩ => by
    subst e
    unfold putD putF
    by_cases hp : p.1 = f
    · rw [if_pos hp, if_pos hp]
      exact ⟨v, r, rfl, h, h2⟩
    · rw [if_neg hp, if_neg hp]
      exact ⟨x, _, rfl, h1, RFs.put h h2⟩
theorem RFs.len {K : PySem.W.Frag} {m B : List Addr} {H : Hp} : ∀ {fs : List (Str × D)} {vs : List (Str × V)}, RFs K m B H fs vs → fs.length = vs.length
  | [], _, h => by
    have h' : _ = _ := h
    rw [h']
    rfl
  | p :: fs, _, ⟨x, r, e, _, h2⟩ => by
    subst e
    simp [RFs.len h2]
def sAttr (cs : List Addr) (f : Str) (a o : DE) : DS := fun ρ S => (a ρ S).to ρ fun d S1 => (o ρ S1).to ρ fun x S2 => match x with
  | .ref n => match S2[n]? with
    | some (.ins c fs) => if c ∈ cs ∧ fs.length < 1000 then .nx ρ (S2.set n (.ins c (putD f d fs))) else .bad
    | _ => .bad
  | _ => .bad
section
variable {X : Cx} {pos p1 : Pos} {a o : Expr} {da dobj : DE}
theorem zs_attr {cs : List Addr} {f : Str} (hc : NoAtt X.K cs f) (ho : ZE X o dobj) (ha : ZE X a da) (hs : swapsWith a (some (.Attribute o f p1)) pos.line X.env = pure false := by rfl) : ZS X (.Assign [.Attribute o f p1] a pos) (sAttr cs f da dobj) := fun W tk =>
  ps_weak (ps_fld (ho W tk) (ha W tk) hs) fun E σ H ⟨m, B, ρ, S, rs, e, p⟩ => tE.takeS rs e p fun d S1 m1 H1 v g1 r1 e1 rd p1 => tE.takeS r1 e1 p1 fun x S2 m2 H2 xv g2 r2 e2 rx p2 => by
    cases x <;> try exact p2.elim
    rename_i n
    have rd2 := rd.mono g2.tr
    unfold RD at rx
    obtain ⟨q, rfl, hq⟩ := rx
    simp only at p2
    split at p2
    · rename_i c fs hn
      split at p2
      · rename_i hcc
        obtain ⟨dx, vs, hv, rf⟩ := r2.ob n q _ hq hn
        refine ⟨q, c, dx, vs, rfl, hv, (hc c hcc.1).1, (hc c hcc.1).2, by rw [← rf.len]; exact hcc.2, ?_⟩
        obtain ⟨g3, r3⟩ := r2.put (u := .ins c dx (putF f v vs)) (o := .ins c (putD f d fs)) hq fun H' g h' => ⟨dx, _, h', RFs.put (rd2.mono g.tr) (RFs.mono g.tr _ _ rf)⟩
        exact p2 m2 _ σ g3 r3 (e2.mono g3.tr)
      · exact p2.elim
    · exact p2.elim
end

/-! ### a class of one's own, called -/
def eMk (C : Addr) (n : Nat) (F : List D → Sto → R D) (dd : List D) (r : DA) : DE := fun ρ S => (r ρ S).bind fun ds S1 => if (D.ref S1.length :: (ds ++ dd)).length = n then
    (F (.ref S1.length :: (ds ++ dd)) (S1 ++ [.ins C []])).bind fun d S2 => match d with
      | .non => .ok (.ref S1.length) S2
      | _ => .bad
    else .bad
theorem run_mk {X : Cx} {k : Nat} {C f : Addr} {fd : FuncData} {ps : List Str} {sp : Sp} {dvs : List V} {ds : List Value} {W : WX} {pins : List (Addr × Obj)} {σ : L2.St} {H : Hp} {s : Shared} {Q : VK} {us : List Value} {vs : List V} (tk : Takes X W) (M : Mk X.K C f)
    (ok : FnOk X.prog X.w X.K X.mg X.base (L2.CX X.prog X.w) k f fd ps sp) (hr : Room (k + 1) X.A) (hb : Binds X.K fd ps ds) (hd : Vals dvs ds) (I : Inv X pins σ H s) (r : Vals vs us)
    (h : ∀ x dx, H x = none → H dx = none → dx ≠ x → sp (.ref x :: (vs ++ dvs)) (upd (upd H dx (.own x)) x (.ins C dx [])) (fun v H2 => v = .non ∧ Q (.ref x) H2) (WE W σ)) : wpAny (model X.prog X.w) X.A (call (.ref C) us) (EP X pins σ Q) X.xe s := by
  have J := Inv.made (C := C) I
  have go := h (s.heap.objs.size + 1) s.heap.objs.size (I.hok.fresh (Nat.le_succ _)) (I.hok.fresh (Nat.le_refl _)) (Nat.ne_of_lt (Nat.lt_succ_self _))
  have rr : Vals (V.ref (s.heap.objs.size + 1) :: (vs ++ dvs)) (Value.ref (s.heap.objs.size + 1) :: (us ++ ds)) := .cons rfl (r.append hd)
  have len : (Value.ref (s.heap.objs.size + 1) :: us ++ ds).length = ps.length := by
    have q := rr.length
    rw [ok.len _ _ _ _ go] at q
    exact q.symm
  have body := ok.run _ X.stack _ _ ⟨Value.ref (s.heap.objs.size + 1) :: us, []⟩ (Value.ref (s.heap.objs.size + 1) :: (us ++ ds)) _ _ (WE W σ) (hr.make C us []) (J.env0.make C us []) (hb _ (Value.ref (s.heap.objs.size + 1) :: us) J.kIn len) rr go
  refine wpAny_call (make_map (f := f) I.kIn M.makes M.init (beq_iff_eq.mp M.fn) (codeAny_mono body fun r s' z => ?_))
  match r with
  | .error e => exact passAt tk σ _ _ _ e s' J z
  | .ok .next => exact z.elim
  | .ok .brk => exact z.elim
  | .ok .cont => exact z.elim
  | .ok (.ret u) =>
    obtain ⟨v, H', J2, rv, ev, q⟩ := J.after z
    subst ev
    exact ⟨rv, V.ref (s.heap.objs.size + 1), H', J2, rfl, q⟩
section
variable {X : Cx} {pos p0 : Pos} {e : Expr} {es : List Expr} {x : Str} {t : DA} {k n : Nat} {f C : Addr} {fd : FuncData} {ps : List Str} {F : List D → Sto → R D} {dd : List D} {dvs : List V} {ds : List Value}
/-- what a new instance is to the promise of its __init__ -/
theorem mk_sp {K : PySem.W.Frag} {W : WX} {σ : L2.St} {Q : VK} {m B : List Addr} {H : Hp} {S : Sto} {das : List D} {vs : List V} (rs : RS K m B H S) (rd : RDs K m B H das vs)
    (p : Post K m B H (fun c x H' => W c x σ H') (fun d _ m' H' => ∀ v, RD K m' B H' d v → Q v H') (if (D.ref S.length :: das).length = n then (F (.ref S.length :: das) (S ++ [.ins C []])).bind fun d S2 => match d with
      | .non => .ok (.ref S.length) S2
      | _ => .bad
    else .bad)) (x dx : Addr) (hx : H x = none) (hdx : H dx = none) (hne : dx ≠ x) : spI K n F (.ref x :: vs) (upd (upd H dx (.own x)) x (.ins C dx [])) (fun v H2 => v = .non ∧ Q (.ref x) H2) (WE W σ) := by
  split at p
  · rename_i hn
    obtain ⟨g1, r1⟩ := rs.new (u := .own x) hdx
    have hx1 : upd H dx (.own x) x = none := by rw [upd_ne (Ne.symm hne)]; exact hx
    have r2 := r1.ban (u := .ins C dx []) hx1
    have r3 : RS K (m ++ [x]) B (upd (upd H dx (.own x)) x (.ins C dx [])) (S ++ [.ins C []]) := r2.own (r1.notB hx1) ⟨dx, [], upd_same, rfl⟩
    have g2 : Ge m H (m ++ [x]) (upd (upd H dx (.own x)) x (.ins C dx [])) := (g1.trans (r1.new hx1).1).own hx
    have tr : Tr m B H (m ++ [x]) B (upd (upd H dx (.own x)) x (.ins C dx [])) := g2.tr
    have at_ : (m ++ [x])[S.length]? = some x := by
      rw [← rs.len, List.getElem?_append_right (Nat.le_refl _)]
      simp
    refine ⟨m ++ [x], B, .ref S.length :: das, S ++ [.ins C []], r3, RDs.cons (by unfold RD; exact ⟨x, rfl, at_⟩) (RDs.mono tr _ _ rd), hn, ?_⟩
    refine (Post.bind (Post.ge p g2)).imp fun d S2 m2 H2 g3 r4 p2 v rv => ?_
    cases d <;> try exact p2.elim
    unfold RD at rv
    refine ⟨rv, ?_⟩
    have p3 : Post K m2 B H2 _ _ (R.ok (D.ref S.length) S2) := p2
    refine p3.now r4 _ ?_
    unfold RD
    exact ⟨x, rfl, (g3.tr (B := B)).at_ _ _ at_⟩
  · exact p.elim
theorem ze_mk (M : Mk X.K C f) (ok : FnOk X.prog X.w X.K X.mg X.base (L2.CX X.prog X.w) k f fd ps (spI X.K n F)) (hr : Room (k + 1) X.A) (hm : X.mg x = some (.ref C)) (hb : Binds X.K fd ps ds) (hd : Vals dvs ds) (hdd : ∀ m B H, RDs X.K m B H dd dvs) (ha : ZA X (e :: es) t) (hg : Gl X x := by rfl) (hdb : (x == ("__debug__" : Str)) = false := by decide)
    (he : starEach (e :: es) X.env = (false, eval e X.env) :: starEach es X.env := by rfl) (hpl : (backTo pos (starEach es X.env)).any (·.1) = false := by rfl) : ZE X (.Call (.Name x p0) (e :: es) [] pos) (eMk C n F dd t) := fun W tk => ⟨fun pins s σ H Q I ⟨m, B, ρ, S, rs, e, p⟩ => by
  refine wpAny_Call_Name_kw (ld_glob I hg hm ?_ hdb)
  refine PySem.W.callWith_K (h₀ := X.base) I.ok.mod.kin M.kp (thn ((ha W tk).run pos pins s σ H (fun vs H1 => ∀ y dx, H1 y = none → H1 dx = none → dx ≠ y → spI X.K n F (.ref y :: (vs ++ dvs)) (upd (upd H1 dx (.own y)) y (.ins C dx [])) (fun v H2 => v = .non ∧ Q (.ref y) H2) (WE W σ)) I ?_) fun us s1 hh => ?_) he hpl
  · refine tAr.take rs e p fun das S1 m1 H1 vs g1 r1 e1 rds p1 => ?_
    exact mk_sp r1 (rds.app (hdd _ _ _)) p1
  · obtain ⟨vs, H1, I1, r, q⟩ := hh
    exact ⟨I1.kIn, run_mk tk M ok hr hb hd I1 r q⟩⟩
theorem ze_mk0 (M : Mk X.K C f) (ok : FnOk X.prog X.w X.K X.mg X.base (L2.CX X.prog X.w) k f fd ps (spI X.K n F)) (hr : Room (k + 1) X.A) (hm : X.mg x = some (.ref C)) (hb : Binds X.K fd ps ds) (hd : Vals dvs ds) (hdd : ∀ m B H, RDs X.K m B H dd dvs) (hg : Gl X x := by rfl) (hdb : (x == ("__debug__" : Str)) = false := by decide) :
    ZE X (.Call (.Name x p0) [] [] pos) (eMk C n F dd aN) := fun W tk => ⟨fun pins s σ H Q I ⟨m, B, ρ, S, rs, e, p⟩ => by
  refine wpAny_Call_Name_kw (ld_glob I hg hm ?_ hdb)
  exact PySem.W.callWith_K0 I.kIn M.kp (run_mk (us := []) (vs := []) tk M ok hr hb hd I .nil (mk_sp (das := [] ++ dd) rs (by simpa using hdd m B H) p))⟩
end

/-! ### what is raised nowhere, what is never reached -/
theorem zs_bad {X : Cx} {st : Stmt} : ZS X st fun _ _ => .bad := fun W tk => ⟨fun pins s σ H D I ⟨m, B, ρ, S, rs, e, p⟩ => p.elim⟩
theorem ze_bad {X : Cx} {e : Expr} : ZE X e fun _ _ => .bad := fun W tk => ⟨fun pins s σ H D I ⟨m, B, ρ, S, rs, e, p⟩ => p.elim⟩
end Z
namespace Z
open PySem PySem.Spec PyProof.Rows L2

/-! ### enumerate of a tuple -/
section
theorem meets_enum1 {v : Value} {o : Obj} {H : Heap → Prop} (B : Begins v o H) :
    Meets (Builtin.«enumerate.__new__» ⟨[.type "enumerate", v], []⟩) (fun _ R s => H s.heap ∧
      R (.ok (.ret (.ref (s.heap.push o).objs.size))) { s with heap := (s.heap.push o).push { cls := .type "enumerate", data := .fields #[.none, .bool false, .ref s.heap.objs.size, rawInt 0, .none, .none] } }) :=
  .of_wp fun prog w A R s h => by
    obtain ⟨hp, gs, dr, tk, os⟩ := s
    obtain ⟨hH, hR⟩ := h
    have sub := sub_enumerate
    have it : ∀ {A' : Around} {E : Value → Shared → Prop} {Q : Value → Shared → Prop}, Q (.ref hp.objs.size) ⟨hp.push o, gs, dr, tk, os⟩ → wpAny (model prog w) A' (pyIter v) Q E ⟨hp, gs, dr, tk, os⟩ :=
      fun q => B.iter prog w _ _ ⟨hp, gs, dr, tk, os⟩ _ hH q
    wp_walk using it
    refine wpAny_stack_any fun st => wpAny_pure ?_
    split
    · rename_i c _ _ _ _ _
      cases (c == Value.type "enumerate") <;> (wp_walk using it; exact ⟨_, rfl, hR⟩)
    · wp_walk using it
      exact ⟨_, rfl, hR⟩
end
section
variable {prog : Program} {w : World} {A : Around} {E : Value → Shared → Prop} {s : Shared}
theorem call_enum1 {v : Value} {o : Obj} {H : Heap → Prop} {Q : Value → Shared → Prop} (B : Begins v o H) (h1 : H s.heap)
    (h : ∀ h', IsEnum h' (s.heap.objs.size + 1) s.heap.objs.size 0 .none → h'.get? s.heap.objs.size = some o → (∀ b o, s.heap.get? b = some o → h'.get? b = some o) → Q (.ref (s.heap.objs.size + 1)) { s with heap := h' }) :
    wpAny (model prog w) A (call (.type "enumerate") [v]) Q E s := by
  refine callType_new F.called_enumerate (by decide) (F.typeCall_enumerate_1 _) (F.newCall_enumerate_1 _) (fun obj => F.args_object_init_2 obj _) F.entry_enumerate_new (meets_enum1 B) ⟨h1, ?_⟩
  show _ ∧ _
  have z1 : (s.heap.push o).objs.size = s.heap.objs.size + 1 := Heap.size_push ..
  rw [z1]
  have e1 : IsEnum ((s.heap.push o).push { cls := .type "enumerate", data := .fields #[.none, .bool false, .ref s.heap.objs.size, rawInt 0, .none, .none] }) (s.heap.objs.size + 1) s.heap.objs.size 0 .none := by
    have q := Heap.get?_push_size (s.heap.push o) (o := { cls := .type "enumerate", data := .fields #[.none, .bool false, .ref s.heap.objs.size, rawInt 0, .none, .none] }) rfl
    rw [z1] at q
    exact q
  exact ⟨⟨_, e1, rfl⟩, h _ e1 (Heap.get?_push_of_some _ (Heap.get?_push_size _ B.free)) fun b o x => Heap.get?_push_of_some _ (Heap.get?_push_of_some _ x)⟩
end
/-- the tuple at a at each turn, each item in a new pair -/
def IteT (K : PySem.W.Frag) (a : Addr) : It :=
  ⟨fun i H => ∃ (xs : List V) (x : V), SqT K H a xs ∧ xs[i]? = some x, fun i H v H' => ∃ T x, v = .ref T ∧ H T = none ∧ H' = upd H T (.tup [.int (i : Nat), x]) ∧ ∀ xs, SqT K H a xs → xs[i]? = some x, fun i H => ∃ xs : List V, SqT K H a xs ∧ xs.length ≤ i⟩
theorem turn_enumT {P : Program} {w : World} {K : PySem.W.Frag} {elts : List Expr} {kk : Nat} {tpos : Pos} (a e it : Addr) :
    Turn P w K (.Tuple elts kk tpos) (IteT K a) [e, it] e (fun i h => (∃ old, IsEnum h e it ((i : Nat) : Int) old) ∧ h.IsTupleIter it a i ∧ e ≠ it) where
  mem := List.mem_cons_self ..
  obj := fun i h st b hb => by
    obtain ⟨⟨old, he⟩, ⟨o, ho, hc, hd⟩, _⟩ := st
    rcases List.mem_cons.mp hb with z | z
    · rw [z]; exact ⟨_, he, fun v q => nomatch q⟩
    · rw [List.mem_singleton.mp z]; exact ⟨o, ho, fun v q => by rw [hd] at q; cases q⟩
  keep := fun i h h' st k => by
    obtain ⟨⟨old, he⟩, hi, ne⟩ := st
    exact ⟨⟨old, k e (List.mem_cons_self ..) _ he⟩, hi.at fun o q => k it (List.mem_cons_of_mem _ (List.mem_cons_self ..)) o q, ne⟩
  item := by
    intro X hP hw hK hc i pins s σ H E I hf st hg
    subst hP hw hK
    obtain ⟨⟨old, he⟩, hit, hne⟩ := st
    obtain ⟨xs, x, hq, hx⟩ := hg
    obtain ⟨its, rv, p, hz⟩ := I.tuple hq
    obtain ⟨u, hu, ru⟩ := rv.get hx
    have l1 : e < s.heap.objs.size := Heap.lt_size he
    have l2 : it < s.heap.objs.size := by obtain ⟨_, q, _⟩ := hit; exact Heap.lt_size q
    have nae : a ≠ e := fun z => by
      obtain ⟨o, ho, hc', _⟩ := id p
      rw [z, he] at ho
      cases ho
      exact absurd (show Value.type "enumerate" = .type "tuple" from hc') (by decide)
    have nai : a ≠ it := fun z => by
      obtain ⟨o, ho, hc', _⟩ := id p
      obtain ⟨o2, ho2, hc2, _⟩ := id hit
      rw [z, ho2] at ho
      cases ho
      rw [hc2] at hc'
      exact absurd hc' (by decide)
    have nef : e ∉ [it, a] := by simp [hne, Ne.symm nae]
    have hi : i < its.toArray.size := by simp; rw [← rv.length]; exact (List.getElem?_eq_some_iff.mp hx).1
    refine wpAny_pyNext_enum_itemC (Draws.tuple (A := X.A.in1) (I.ok.hd hc) it a nai its.toArray) he ⟨hit, p⟩ hi hne nef fun y h' tk hy ho hst hT hsz hk => ?_
    have hy' : its.toArray[i]? = some y := hy
    have ey : y = u := by simp at hy'; rw [hu] at hy'; cases hy'; rfl
    subst ey
    refine ⟨_, rfl, wpAny_letOwnedTupleGo_enum (s := { s with heap := h', toks := tk + 1 }) ho fun h2 he' sb => ?_⟩
    have hT2 : h2.get? s.heap.objs.size = some { cls := .type "tuple", data := .seq #[.int i tk, y] } := (sb.2 _ (Nat.ne_of_gt l1)).trans hT
    have new : ObjOk X.prog X.w (upd H s.heap.objs.size (.tup [.int (i : Nat), x])) h2 s.heap.objs.size (.tup [.int (i : Nat), x]) :=
      ⟨by show 2 ≤ sizeLine; decide, [.int i tk, y], .cons ⟨_, rfl⟩ (.cons ru .nil), ⟨_, hT2, rfl, _, rfl⟩⟩
    have J : Inv X pins σ (upd H s.heap.objs.size (.tup [.int (i : Nat), x])) { s with heap := h2, toks := tk + 1 } :=
      I.turnedNew (ch := [e, it]) (fun b ob hb q => (sb.2 b (fun z => hb (by simp [z]))).trans (hk b ob (fun z => hb (by simp [z])) (fun z => hb (by simp [z])) q)) hf (Nat.le_refl _) new
    refine ⟨.ref s.heap.objs.size, _, J, rfl, ⟨_, x, rfl, I.hok.fresh (Nat.le_refl _), rfl, fun ys hy => by rw [I.tuple_inj hy hq]; exact hx⟩, ⟨⟨y, ?_⟩, hst.1.at fun o q => (sb.2 it (Ne.symm hne)).trans q, hne⟩, fun b hb => ?_⟩
    · have e2 : ((i + 1 : Nat) : Int) = (i : Int) + 1 := by omega
      rw [e2]
      exact he'
    · have lb : b < s.heap.objs.size := by
        rcases List.mem_cons.mp hb with z | z
        · rw [z]; exact l1
        · rw [List.mem_singleton.mp z]; exact l2
      rw [upd_ne (Nat.ne_of_lt lb)]
      exact (hf b hb).1
  done := by
    intro X hP hw hK hc i pins s σ H E I hf st hg
    subst hP hw hK
    obtain ⟨⟨old, he⟩, hit, hne⟩ := st
    obtain ⟨xs, hq, hx⟩ := hg
    obtain ⟨its, rv, p, hz⟩ := I.tuple hq
    obtain ⟨f0, f1, f2, f3, f4, f5⟩ := hf it (by simp)
    have hl := rv.length
    have hT : s.TypeIs (.ref e) "enumerate" := ⟨_, he, rfl⟩
    unfold pyNext
    refine wpAny_bind (wpAny_attempt (wpAny_callSpecial?_slot (name := Str.ofString "__next__") hT F.slot_enumerate_next
      (wpAny_call_entry F.slot_enumerate_next hT F.entry_enumerate_next ?_ (F.args_enumerate_next_1 _))))
    show wpAny _ _ (field (.ref e) 2 >>= _) _ _ _
    refine wpAny_bind (wpAny_field he rfl (x := .ref it) rfl ?_)
    refine wpAny_bind (wpAny_nextOf_tuple_end (I.ok.hd hc) hit p (by simp; omega) fun h' x eb hx' => ?_)
    obtain ⟨o, ho, hco⟩ := hx'
    refine wpAny_bind (wpAny_isInstance (T := "StopIteration") (b := true) ⟨o, ho, hco⟩ isSubtype_stop ?_)
    exact wpAny_pure ⟨rfl, I.turned (t' := s.toks) (fun b o hb q => eb b o hb q) f0 f1 f3 f4 f5⟩
  self := fun A i s Q E st h => by
    obtain ⟨⟨_, he⟩, _⟩ := st
    exact wpAny_pyIter_enum he h
/-! ### what is walked, told by what it gives -/
/-- the thing at a has the items ds as long as the store is so -/
def SY (K : PySem.W.Frag) (Sq : Hp → Addr → List V → Prop) (a : Addr) (m0 B0 : List Addr) (H0 : Hp) (ds : List D) (chk : Sto → Prop) : Prop :=
  ∀ m B H S, Tr m0 B0 H0 m B H → RS K m B H S → chk S → ∃ vs, Sq H a vs ∧ RDs K m B H ds vs
def enumF (k : Nat) : List D → List D
  | [] => []
  | d :: ds => .tup [.int (k : Nat), d] :: enumF (k + 1) ds
theorem enumF_len : ∀ (k : Nat) (ds : List D), (enumF k ds).length = ds.length
  | _, [] => rfl
  | k, d :: ds => by simp [enumF, enumF_len (k + 1) ds]
theorem enumF_get : ∀ (ds : List D) (k i : Nat) (d : D), ds[i]? = some d → (enumF k ds)[i]? = some (.tup [.int ((k + i : Nat) : Int), d])
  | [], _, _, _, h => by simp at h
  | d :: ds, k, 0, _, h => by simp at h; simp [enumF, h]
  | d :: ds, k, i + 1, _, h => by
    simp at h
    simp only [enumF, List.getElem?_cons_succ]
    rw [enumF_get ds (k + 1) i _ h]
    congr 5
    omega
def zipD : List D → List D → List D
  | x :: xs, y :: ys => .tup [x, y] :: zipD xs ys
  | _, _ => []
theorem zipD_len : ∀ (xs ys : List D), (zipD xs ys).length = min xs.length ys.length
  | [], _ => by simp [zipD]
  | _ :: _, [] => by simp [zipD]
  | x :: xs, y :: ys => by simp [zipD, zipD_len xs ys]
theorem zipD_get : ∀ (xs ys : List D) (i : Nat) (x y : D), xs[i]? = some x → ys[i]? = some y → (zipD xs ys)[i]? = some (.tup [x, y])
  | [], _, _, _, _, h, _ => by simp at h
  | _ :: _, [], _, _, _, _, h => by simp at h
  | x :: xs, y :: ys, 0, _, _, h, h' => by simp_all [zipD]
  | x :: xs, y :: ys, i + 1, _, _, h, h' => by
    simp at h h'
    simp only [zipD, List.getElem?_cons_succ]
    exact zipD_get xs ys i _ _ h h'
section
variable {K : PySem.W.Frag} {m0 B0 : List Addr} {H0 : Hp} {ds es : List D} {a b : Addr} {chk chk2 : Sto → Prop}
theorem RDs.getD {m B : List Addr} {H : Hp} {vs : List V} {i : Nat} (r : RDs K m B H ds vs) (h : i < ds.length) : ∃ v, vs[i]? = some v ∧ RD K m B H (ds[i]) v := r.get (by simp [h])
theorem new_pair {m B : List Addr} {H : Hp} {S : Sto} {T : Addr} {xs : List V} {us : List D} (rs : RS K m B H S) (hT : H T = none) (r : RDs K m B H us xs) : (∀ b o, H b = some o → upd H T (.tup xs) b = some o) ∧ RD K m B (upd H T (.tup xs)) (.tup us) (.ref T) := by
  refine ⟨new_ext hT, ?_⟩
  unfold RD
  exact ⟨T, xs, rfl, .inl ⟨rs.notin hT, rs.notB hT, .inl upd_same⟩, RDs.mono (rs.new hT).1.tr _ _ r⟩
theorem jy_enum (s : SY K (SqL K) a m0 B0 H0 ds chk) : JY K (Ite K a) m0 B0 H0 (enumF 0 ds) chk where
  go := fun i m B H S t rs hc hi => by
    rw [enumF_len] at hi
    obtain ⟨vs, q, r⟩ := s m B H S t rs hc
    obtain ⟨v, hv, _⟩ := r.getD hi
    exact ⟨vs, v, q, hv⟩
  yl := fun i m B H S x H' d t rs hc hd y => by
    have hi := (List.getElem?_eq_some_iff.mp hd).1
    rw [enumF_len] at hi
    obtain ⟨vs, q, r⟩ := s m B H S t rs hc
    obtain ⟨v, hv, rv⟩ := r.getD hi
    obtain ⟨T, w, rfl, hT, rfl, hall⟩ := y
    have e := hall vs q
    rw [hv] at e
    cases e
    rw [enumF_get ds 0 i ds[i] (by simp [hi]), Nat.zero_add] at hd
    cases hd
    exact new_pair rs hT (RDs.cons (RDi _) (RDs.cons rv RDs.nil))
  st := fun i m B H S t rs hc hi => by
    rw [enumF_len] at hi
    obtain ⟨vs, q, r⟩ := s m B H S t rs hc
    exact ⟨vs, q, by rw [← r.len]; exact hi⟩
theorem jy_enumT (s : SY K (SqT K) a m0 B0 H0 ds chk) : JY K (IteT K a) m0 B0 H0 (enumF 0 ds) chk where
  go := fun i m B H S t rs hc hi => by
    rw [enumF_len] at hi
    obtain ⟨vs, q, r⟩ := s m B H S t rs hc
    obtain ⟨v, hv, _⟩ := r.getD hi
    exact ⟨vs, v, q, hv⟩
  yl := fun i m B H S x H' d t rs hc hd y => by
    have hi := (List.getElem?_eq_some_iff.mp hd).1
    rw [enumF_len] at hi
    obtain ⟨vs, q, r⟩ := s m B H S t rs hc
    obtain ⟨v, hv, rv⟩ := r.getD hi
    obtain ⟨T, w, rfl, hT, rfl, hall⟩ := y
    have e := hall vs q
    rw [hv] at e
    cases e
    rw [enumF_get ds 0 i ds[i] (by simp [hi]), Nat.zero_add] at hd
    cases hd
    exact new_pair rs hT (RDs.cons (RDi _) (RDs.cons rv RDs.nil))
  st := fun i m B H S t rs hc hi => by
    rw [enumF_len] at hi
    obtain ⟨vs, q, r⟩ := s m B H S t rs hc
    exact ⟨vs, q, by rw [← r.len]; exact hi⟩
theorem jy_zipT (s : SY K (SqT K) a m0 B0 H0 ds chk) (s2 : SY K (SqT K) b m0 B0 H0 es chk2) : JY K (RZ.ItzT K a b) m0 B0 H0 (zipD ds es) fun S => chk S ∧ chk2 S where
  go := fun i m B H S t rs hc hi => by
    rw [zipD_len] at hi
    obtain ⟨vs, q, r⟩ := s m B H S t rs hc.1
    obtain ⟨ws, q2, r2⟩ := s2 m B H S t rs hc.2
    obtain ⟨v, hv, _⟩ := r.getD (i := i) (by omega)
    obtain ⟨w, hw, _⟩ := r2.getD (i := i) (by omega)
    exact ⟨vs, ws, v, w, q, q2, hv, hw⟩
  yl := fun i m B H S x H' d t rs hc hd y => by
    have hi := (List.getElem?_eq_some_iff.mp hd).1
    rw [zipD_len] at hi
    obtain ⟨vs, q, r⟩ := s m B H S t rs hc.1
    obtain ⟨ws, q2, r2⟩ := s2 m B H S t rs hc.2
    have h1 : i < ds.length := by omega
    have h2 : i < es.length := by omega
    obtain ⟨v, hv, rv⟩ := r.getD h1
    obtain ⟨w, hw, rw'⟩ := r2.getD h2
    obtain ⟨T, x', y', rfl, hT, rfl, hall, hall2⟩ := y
    have e := hall vs q
    rw [hv] at e
    cases e
    have e := hall2 ws q2
    rw [hw] at e
    cases e
    rw [zipD_get ds es i ds[i] es[i] (by simp [h1]) (by simp [h2])] at hd
    cases hd
    exact new_pair rs hT (RDs.cons rv (RDs.cons rw' RDs.nil))
  st := fun i m B H S t rs hc hi => by
    rw [zipD_len] at hi
    obtain ⟨vs, q, r⟩ := s m B H S t rs hc.1
    obtain ⟨ws, q2, r2⟩ := s2 m B H S t rs hc.2
    exact ⟨vs, ws, q, q2, by rw [← r.len, ← r2.len]; omega⟩
theorem jy_zip (s : SY K (SqL K) a m0 B0 H0 ds chk) (s2 : SY K (SqL K) b m0 B0 H0 es chk2) : JY K (Itz K a b) m0 B0 H0 (zipD ds es) fun S => chk S ∧ chk2 S where
  go := fun i m B H S t rs hc hi => by
    rw [zipD_len] at hi
    obtain ⟨vs, q, r⟩ := s m B H S t rs hc.1
    obtain ⟨ws, q2, r2⟩ := s2 m B H S t rs hc.2
    obtain ⟨v, hv, _⟩ := r.getD (i := i) (by omega)
    obtain ⟨w, hw, _⟩ := r2.getD (i := i) (by omega)
    exact ⟨vs, ws, v, w, q, q2, hv, hw⟩
  yl := fun i m B H S x H' d t rs hc hd y => by
    have hi := (List.getElem?_eq_some_iff.mp hd).1
    rw [zipD_len] at hi
    obtain ⟨vs, q, r⟩ := s m B H S t rs hc.1
    obtain ⟨ws, q2, r2⟩ := s2 m B H S t rs hc.2
    have h1 : i < ds.length := by omega
    have h2 : i < es.length := by omega
    obtain ⟨v, hv, rv⟩ := r.getD h1
    obtain ⟨w, hw, rw'⟩ := r2.getD h2
    obtain ⟨T, x', y', rfl, hT, rfl, hall, hall2⟩ := y
    have e := hall vs q
    rw [hv] at e
    cases e
    have e := hall2 ws q2
    rw [hw] at e
    cases e
    rw [zipD_get ds es i ds[i] es[i] (by simp [h1]) (by simp [h2])] at hd
    cases hd
    exact new_pair rs hT (RDs.cons rv (RDs.cons rw' RDs.nil))
  st := fun i m B H S t rs hc hi => by
    rw [zipD_len] at hi
    obtain ⟨vs, q, r⟩ := s m B H S t rs hc.1
    obtain ⟨ws, q2, r2⟩ := s2 m B H S t rs hc.2
    exact ⟨vs, ws, q, q2, by rw [← r.len, ← r2.len]; omega⟩
end
/-- a list that may be walked: its items, and what the store must keep -/
def lstC (S : Sto) : D → Option (List D × (Sto → Prop))
  | .lst ds => some (ds, fun _ => True)
  | .scr ds => some (ds, fun _ => True)
  | .ref n => match S[n]? with
    | some (.lst ds) => some (ds, fun S' => S'[n]? = some (.lst ds))
    | _ => none
  | _ => none
section
variable {K : PySem.W.Frag} {m B : List Addr} {H : Hp} {S : Sto}
theorem lstC_ok {d : D} {v : V} {p : List D × (Sto → Prop)} (rs : RS K m B H S) (rd : RD K m B H d v) (h : lstC S d = some p) : ∃ a, v = .ref a ∧ SY K (SqL K) a m B H p.1 p.2 ∧ p.2 S := by
  cases d <;> try (cases h; done)
  · unfold RD at rd
    obtain ⟨a, vs, rfl, f, r⟩ := rd
    cases h
    exact ⟨a, rfl, fun m' B' H' S' t _ _ => ⟨vs, (f.mono t).sq, RDs.mono t _ _ r⟩, trivial⟩
  · unfold RD at rd
    obtain ⟨a, vs, rfl, f, r⟩ := rd
    cases h
    exact ⟨a, rfl, fun m' B' H' S' t _ _ => ⟨vs, (f.mono t).sq, RDs.mono t _ _ r⟩, trivial⟩
  · rename_i n
    unfold RD at rd
    obtain ⟨a, rfl, q⟩ := rd
    simp only [lstC] at h
    split at h
    · rename_i ds hn
      cases h
      refine ⟨a, rfl, fun m' B' H' S' t rs' hc => ?_, hn⟩
      obtain ⟨vs, ea, rv⟩ := rs'.ob n a _ (t.at_ _ _ q) hc
      exact ⟨vs, SqL.of ea, rv⟩
    · cases h
theorem tupC_ok {ds : List D} {v : V} (rd : RD K m B H (.tup ds) v) : ∃ a, v = .ref a ∧ SY K (SqT K) a m B H ds fun _ => True := by
  unfold RD at rd
  obtain ⟨a, vs, rfl, f, r⟩ := rd
  exact ⟨a, rfl, fun m' B' H' S' t _ _ => ⟨vs, (f.mono t).sq, RDs.mono t _ _ r⟩⟩
end
def iEnumD (a : DE) : DI := fun ρ S => (a ρ S).bind fun d S1 => match d with
  | .tup ds => .ok (enumF 0 ds, fun _ => True) S1
  | d => match lstC S1 d with
    | some p => .ok (enumF 0 p.1, p.2) S1
    | none => .bad
def fEnum : List D → Sto → R (List D × (Sto → Prop))
  | [.tup ds], S1 => .ok (enumF 0 ds, fun _ => True) S1
  | [d], S1 => match lstC S1 d with
    | some p => .ok (enumF 0 p.1, p.2) S1
    | none => .bad
  | _, _ => .bad
def fZip : List D → Sto → R (List D × (Sto → Prop))
  | [.tup xs, .tup ys], S => .ok (zipD xs ys, fun _ => True ∧ True) S
  | [d, e], S => match lstC S d, lstC S e with
    | some p, some q => .ok (zipD p.1 q.1, fun S' => p.2 S' ∧ q.2 S') S
    | _, _ => .bad
  | _, _ => .bad
def iCall (f : List D → Sto → R (List D × (Sto → Prop))) (a : DA) : DI := fun ρ S => (a ρ S).bind f
section
variable {X : Cx} {tg e e2 : Expr} {da db : DE} {t : DA} {p pos tpos : Pos} {elts : List Expr} {kk : Nat}
theorem zi_enum (hm : X.mg "enumerate" = none) (ha : ZA X [e] t) (hg : Gl X "enumerate" := by rfl) (hs : starEach [e] X.env = [(false, eval e X.env)] := by rfl) : ZI X (.Tuple elts kk tpos) (.Call (.Name "enumerate" p) [e] [] pos) (iCall fEnum t) := fun W tk => ⟨fun pins s σ H Q I ⟨m, B, ρ, S, rs, ev, p⟩ => by
  refine Call_ (ld_blt I hg hm boot_enumerate (PyProof.Rows.callWith_type1 (thn ((ha W tk).run pos pins s σ H (fun vs H1 => ∃ a, vs = [.ref a] ∧ ((∃ xs, SqL X.K H1 a xs ∧ Q (Ite X.K a) H1) ∨ (∃ xs, SqT X.K H1 a xs ∧ Q (IteT X.K a) H1))) I ?_) fun us s1 hh => ?_) hs rfl))
  · refine tAr.take rs ev p fun ds S1 m1 H1 vs g1 r1 e1 rds p1 => ?_
    match ds, rds, p1 with
    | [], _, p1 => exact p1.elim
    | _ :: _ :: _, _, p1 => exact (show False by revert p1; unfold fEnum; split <;> simp_all [Post]).elim
    | [d], rds, p1 =>
      obtain ⟨v, rfl, rv⟩ := rds.one
      by_cases ht : ∃ xs, d = .tup xs
      · obtain ⟨xs, rfl⟩ := ht
        obtain ⟨a, rfl, sy⟩ := tupC_ok rv
        obtain ⟨ws, q, _⟩ := sy m1 B H1 S1 .refl r1 trivial
        exact ⟨a, rfl, .inr ⟨ws, q, p1.now r1 trivial _ (jy_enumT sy)⟩⟩
      · have p2 : Post X.K m1 B H1 (fun c x H' => W c x σ H') (fun p S' m' H' => p.2 S' → ∀ J, JY X.K J m' B H' p.1 p.2 → Q J H') (match lstC S1 d with
          | some p => .ok (enumF 0 p.1, p.2) S1
          | none => .bad) := by
          cases d <;> first | exact p1 | exact absurd ⟨_, rfl⟩ ht
        cases hl : lstC S1 d with
        | none => rw [hl] at p2; exact p2.elim
        | some q =>
          rw [hl] at p2
          obtain ⟨a, rfl, sy, hc⟩ := lstC_ok r1 rv hl
          obtain ⟨ws, sq, _⟩ := sy m1 B H1 S1 .refl r1 hc
          exact ⟨a, rfl, .inl ⟨ws, sq, p2.now r1 hc _ (jy_enum sy)⟩⟩
  · obtain ⟨vs, H1, I1, r1, a, rfl, hh⟩ := hh
    cases r1 with
    | cons r rr =>
      cases rr
      cases r
      have fresh : ∀ b, b ∈ [s1.heap.objs.size + 1, s1.heap.objs.size] → FpOk X pins H1 b := fun b hb => by
        have le : s1.heap.objs.size ≤ b := by
          rcases List.mem_cons.mp hb with z | z
          · rw [z]; exact Nat.le_add_right _ _
          · rw [List.mem_singleton.mp z]; exact Nat.le_refl _
        exact I1.fpOk le (I1.hok.fresh le)
      rcases hh with ⟨xs, hq, q⟩ | ⟨xs, hq, q⟩
      · obtain ⟨its, rv, p', hz⟩ := I1.list hq
        refine call_enumerate_list p'.isList fun h' he hit hsz hk => wpAny_pyIter_enum he ?_
        have I2 : Inv X pins σ H1 { s1 with heap := h' } := I1.kept (t' := s1.toks) hk
        exact ⟨s1.heap.objs.size + 1, [s1.heap.objs.size + 1, s1.heap.objs.size], _, _, H1, rfl, I2, turn_enum a (s1.heap.objs.size + 1) s1.heap.objs.size, ⟨⟨.none, he⟩, hit, Nat.succ_ne_self _⟩, fresh, q⟩
      · obtain ⟨its, rv, p', hz⟩ := I1.tuple hq
        refine call_enum1 (begins_tuple a its.toArray) p' fun h' he hit hk => wpAny_pyIter_enum he ?_
        have I2 : Inv X pins σ H1 { s1 with heap := h' } := I1.kept (t' := s1.toks) hk
        exact ⟨s1.heap.objs.size + 1, [s1.heap.objs.size + 1, s1.heap.objs.size], _, _, H1, rfl, I2, turn_enumT a (s1.heap.objs.size + 1) s1.heap.objs.size, ⟨⟨.none, he⟩, ⟨_, hit, rfl, rfl⟩, Nat.succ_ne_self _⟩, fresh, q⟩⟩
theorem zi_zip (hm : X.mg "zip" = none) (ha : ZA X [e, e2] t) (hg : Gl X "zip" := by rfl) (hs : starEach [e, e2] X.env = (false, eval e X.env) :: starEach [e2] X.env := by rfl) (hpl : (backTo pos (starEach [e2] X.env)).any (·.1) = false := by rfl) :
    ZI X (.Tuple elts kk tpos) (.Call (.Name "zip" p) [e, e2] [] pos) (iCall fZip t) := fun W tk => pi_weak (RZ.pi_zipA hg hm (ha W tk) hs hpl) fun σ H Q ⟨m, B, ρ, S, rs, ev, p⟩ => tAr.take rs ev p fun ds S1 m1 H1 vs g1 r1 e1 rds p1 => by
  match ds, rds, p1 with
  | [], _, p1 => exact p1.elim
  | [_], _, p1 => exact (show False by revert p1; unfold fZip; split <;> simp_all [Post]).elim
  | _ :: _ :: _ :: _, _, p1 => exact (show False by revert p1; unfold fZip; split <;> simp_all [Post]).elim
  | [d, d2], rds, p1 =>
    obtain ⟨v, w, rfl, rv, rw'⟩ := rds.two
    by_cases ht : ∃ xs ys, d = .tup xs ∧ d2 = .tup ys
    · obtain ⟨xs, ys, rfl, rfl⟩ := ht
      obtain ⟨a, rfl, sy⟩ := tupC_ok rv
      obtain ⟨b, rfl, sy2⟩ := tupC_ok rw'
      obtain ⟨ws, q, _⟩ := sy m1 B H1 S1 .refl r1 trivial
      obtain ⟨us, q2, _⟩ := sy2 m1 B H1 S1 .refl r1 trivial
      exact ⟨a, b, ws, us, rfl, .inr ⟨q, q2, p1.now r1 ⟨trivial, trivial⟩ _ (jy_zipT sy sy2)⟩⟩
    · have p2 : Post X.K m1 B H1 (fun c x H' => W c x σ H') (fun p S' m' H' => p.2 S' → ∀ J, JY X.K J m' B H' p.1 p.2 → Q J H') (match lstC S1 d, lstC S1 d2 with
        | some p, some q => .ok (zipD p.1 q.1, fun S' => p.2 S' ∧ q.2 S') S1
        | _, _ => .bad) := by
        cases d <;> cases d2 <;> first | exact p1 | exact absurd ⟨_, _, rfl, rfl⟩ ht
      cases hl : lstC S1 d with
      | none => rw [hl] at p2; exact p2.elim
      | some x =>
        cases hl2 : lstC S1 d2 with
        | none => rw [hl, hl2] at p2; exact p2.elim
        | some y =>
          rw [hl, hl2] at p2
          obtain ⟨a, rfl, sy, hc⟩ := lstC_ok r1 rv hl
          obtain ⟨b, rfl, sy2, hc2⟩ := lstC_ok r1 rw' hl2
          obtain ⟨ws, sq, _⟩ := sy m1 B H1 S1 .refl r1 hc
          obtain ⟨us, sq2, _⟩ := sy2 m1 B H1 S1 .refl r1 hc2
          exact ⟨a, b, ws, us, rfl, .inl ⟨sq, sq2, p2.now r1 ⟨hc, hc2⟩ _ (jy_zip sy sy2)⟩⟩
end
end Z
namespace Z
open PySem L2

/-! ### comprehensions of two fors -/
open Classical in
noncomputable def lc2I (tg : Tg) (chk : Sto → Prop) (t : DT) (inn : DA) (ρ0 : Env) : List D → Sto → R (List D)
  | [], S => .ok [] S
  | d :: ds, S => match Tg.asg S tg d ρ0 with
    | none => .bad
    | some ρ1 => (t ρ1 S).safe.bind fun k S1 => if k = true then (inn ρ1 S1).safe.bind fun ys S2 => if chk S2 then (lc2I tg chk t inn ρ0 ds S2).bind fun zs S3 => .ok (ys ++ zs) S3 else .bad
      else if chk S1 then lc2I tg chk t inn ρ0 ds S1 else .bad
noncomputable def innI (tg : Tg) (i : DI) (t : DT) (e : DE) (vs : List Nat) : DA := fun ρ S => (i ρ S).safe.bind fun p S1 => lcI tg p.2 t e (wipeD ρ vs) p.1 S1
noncomputable def lLc2 (tg : Tg) (i : DI) (t : DT) (tg1 : Tg) (i1 : DI) (t1 : DT) (e : DE) (vs vs1 : List Nat) : DA := fun ρ S => (i ρ S).bind fun p S1 => (lc2I tg p.2 t (innI tg1 i1 t1 e vs1) (wipeD ρ vs) p.1 S1).safe.bind fun L S2 => if L.length ≤ 16777216 then .ok L S2 else .bad
/-- what is wanted of the list once it is longer -/
def Kont (K : PySem.W.Frag) (mO : List Addr) (HO : Hp) (mi Bi : List Addr) (Hi : Hp) (Dl : Addr) (N : List Addr → Sto → Hp → List V → List D → Prop) : R (List D) → Prop
  | .ok acc S' => acc.length ≤ 16777216 ∧ ∀ m' H' va, Ge mO HO m' H' → Tr mi Bi Hi m' Bi H' → RS K m' Bi H' S' → H' Dl = some (.lst va) → RDs K m' Bi H' acc va → N m' S' H' va acc
  | _ => False
section
variable {K : PySem.W.Frag} {tg : Tg} {dt : DT} {de : DE} {vs : List Nat} {ρ : Env} {σ : L2.St} {J : It} {ds : List D} {chk : Sto → Prop} {mO mi B : List Addr} {HO Hi : Hp} {Si : Sto} {Dl : Addr} {acc : List D} {va : List V} {Nx : Hp → Prop}
theorem lc_inner (hD : HO Dl = none) (gO : Ge mO HO mi Hi) (rs : RS K mi (Dl :: B) Hi Si) (e : REs K mi (Dl :: B) Hi ρ σ) (hc : chk Si) (jy : JY K J mi (Dl :: B) Hi ds chk) (hix : ∀ i ∈ tg.ix, i ∈ vs) (hl0 : Hi Dl = some (.lst va)) (ra0 : RDs K mi (Dl :: B) Hi acc va)
    (p : Kont K mO HO mi (Dl :: B) Hi Dl (fun _ _ H' _ _ => Nx H') ((lcI tg chk dt de (wipeD ρ vs) ds Si).bind fun ys S' => .ok (acc ++ ys) S')) : ∃ W1 : Nat → Nat → Hp → Prop, (∃ m, W1 0 m Hi) ∧ ∀ j k H, W1 j k H →
      (J.stop j H ∧ Nx H) ∨ (J.go j H ∧ ∃ Nx1 : Hp → Prop, (∀ H', Nx1 H' → ∃ k', k' < k ∧ W1 (j + 1) k' H') ∧ ∀ x H', J.yld j H x H' → gT K tg x (wipe σ vs) H' fun σ3 H5 => wipe σ3 vs = wipe σ vs ∧ tTe WF K dt σ3 H5 fun b H6 =>
        if b = true then tE WF K de σ3 H6 fun y H7 => ∃ acc, H7 Dl = some (.lst acc) ∧ acc.length < sizeLine ∧ Nx1 (upd H7 Dl (.lst (acc ++ [y]))) else Nx1 H6) := by
  let St := fun (i : Nat) (H : Hp) => i ≤ ds.length ∧ ∃ m S acc va, Ge mO HO m H ∧ Tr mi (Dl :: B) Hi m (Dl :: B) H ∧ RS K m (Dl :: B) H S ∧ chk S ∧ H Dl = some (.lst va) ∧ RDs K m (Dl :: B) H acc va ∧
    Kont K mO HO mi (Dl :: B) Hi Dl (fun _ _ H' _ _ => Nx H') ((lcI tg chk dt de (wipeD ρ vs) (ds.drop i) S).bind fun ys S' => .ok (acc ++ ys) S')
  refine ⟨fun i k H => k = ds.length - i ∧ St i H, ⟨_, rfl, Nat.zero_le _, mi, Si, acc, va, gO, .refl, rs, hc, hl0, ra0, p⟩, ?_⟩
  rintro i k H ⟨rfl, hi, m, S, acc, va, g, tr, r, hch, hl, ra, p2⟩
  by_cases hlt : i < ds.length
  · refine .inr ⟨jy.go i m (Dl :: B) H S tr r hch hlt, St (i + 1), fun H' h => ⟨ds.length - (i + 1), by omega, rfl, h⟩, fun x H3 y => ?_⟩
    obtain ⟨ext, rx⟩ := jy.yl i m (Dl :: B) H S x H3 ds[i] tr r hch (by simp [hlt]) y
    obtain ⟨g3, r3⟩ := r.ext ext
    rw [List.drop_eq_getElem_cons hlt] at p2
    unfold lcI at p2
    have ew : REs K m (Dl :: B) H3 (wipeD ρ vs) (wipe σ vs) := (e.mono (tr.trans g3.tr)).wipe vs
    cases ha : Tg.asg S tg ds[i] (wipeD ρ vs) with
    | none => rw [ha] at p2; exact (show False from p2).elim
    | some ρ1 =>
      rw [ha] at p2
      simp only at p2
      refine ⟨m, Dl :: B, S, _, wipeD ρ vs, ρ1, r3, rx, ew, ha, fun σ2 e2 sam => ⟨by rw [sam vs hix, wipe_wipe], m, Dl :: B, ρ1, S, r3, e2, ?_⟩⟩
      cases ht : dt ρ1 S with
      | exc _ _ _ => rw [ht] at p2; exact (show False from p2).elim
      | bad => rw [ht] at p2; exact (show False from p2).elim
      | ok b S1 =>
        rw [ht] at p2
        simp only [R.safe_ok, R.bind_ok] at p2
        refine fun m4 H4 g4 r4 => ?_
        have hl4 : H4 Dl = some (.lst va) := (g4.keep Dl _ (fun q => r3.dis Dl q (List.mem_cons_self ..)) (ext _ _ hl)).2
        have ra4 := RDs.mono (g3.tr.trans g4.tr) _ _ ra
        cases b with
        | false =>
          rw [if_neg Bool.false_ne_true] at p2
          show St (i + 1) H4
          split at p2
          · rename_i hc1
            exact ⟨hlt, m4, S1, acc, va, (g.trans g3).trans g4, (tr.trans g3.tr).trans g4.tr, r4, hc1, hl4, ra4, p2⟩
          · exact (show False from p2).elim
        | true =>
          rw [if_pos rfl] at p2
          show tE WF K de σ2 H4 _
          refine ⟨m4, Dl :: B, ρ1, S1, r4, e2.mono g4.tr, ?_⟩
          cases he : de ρ1 S1 with
          | exc _ _ _ => rw [he] at p2; exact (show False from p2).elim
          | bad => rw [he] at p2; exact (show False from p2).elim
          | ok y S2 =>
            rw [he] at p2
            simp only [R.safe_ok, R.bind_ok] at p2
            refine fun m5 H5 g5 r5 v rv => ?_
            have hl5 : H5 Dl = some (.lst va) := (g5.keep Dl _ (fun q => r4.dis Dl q (List.mem_cons_self ..)) hl4).2
            have ra5 := RDs.mono g5.tr _ _ ra4
            split at p2
            · rename_i hc2
              have p3 : Kont K mO HO mi (Dl :: B) Hi Dl (fun _ _ H' _ _ => Nx H') ((lcI tg chk dt de (wipeD ρ vs) (ds.drop (i + 1)) S2).bind fun ys S' => .ok ((acc ++ [y]) ++ ys) S') := by
                cases hr : lcI tg chk dt de (wipeD ρ vs) (ds.drop (i + 1)) S2 with
                | ok ys S3 =>
                  rw [hr] at p2
                  simp only [R.bind_ok, List.append_assoc, List.singleton_append] at p2 ⊢
                  exact p2
                | exc _ _ _ => rw [hr] at p2; exact (show False from p2).elim
                | bad => rw [hr] at p2; exact (show False from p2).elim
              have hlen : acc.length < 16777216 := by
                cases hr : lcI tg chk dt de (wipeD ρ vs) (ds.drop (i + 1)) S2 with
                | ok ys S3 =>
                  rw [hr] at p3
                  have := p3.1
                  simp at this
                  omega
                | exc _ _ _ => rw [hr] at p3; exact (show False from p3).elim
                | bad => rw [hr] at p3; exact (show False from p3).elim
              refine ⟨va, hl5, ?_, hlt, m5, S2, acc ++ [y], va ++ [v], ?_, ?_, ?_, hc2, upd_same, ?_, p3⟩
              · rw [← ra5.len, sizeLine_eq]
                exact hlen
              · have g6 := ((g.trans g3).trans g4).trans g5
                exact ⟨g6.pre, fun b o hb q => ⟨(g6.keep b o hb q).1, by rw [upd_ne (ne_of_none q hD)]; exact (g6.keep b o hb q).2⟩⟩
              · exact (((tr.trans g3.tr).trans g4.tr).trans g5.tr).trans (Tr.chg (List.mem_cons_self ..))
              · exact r5.chg (List.mem_cons_self ..)
              · exact RDs.mono (Tr.chg (List.mem_cons_self ..)) _ _ (ra5.app (RDs.cons rv RDs.nil))
            · exact (show False from p2).elim
  · have e' : i = ds.length := by omega
    subst e'
    rw [List.drop_length] at p2
    simp only [lcI, R.bind_ok, List.append_nil] at p2
    exact .inl ⟨jy.st _ m (Dl :: B) H S tr r hch (Nat.le_refl _), p2.2 m H va g tr r hl ra⟩
end
section
variable {K : PySem.W.Frag} {tg tg1 : Tg} {dt dt1 : DT} {di1 : DI} {de : DE} {vs vs1 : List Nat} {ρ : Env} {σ : L2.St} {J : It} {ds : List D} {chk : Sto → Prop} {m0 B : List Addr} {H0 : Hp} {S0 : Sto} {Q : VK}
def PostL2 (K : PySem.W.Frag) (m B : List Addr) (H : Hp) (Q : VK) : R (List D) → Prop
  | .ok ds S' => ds.length ≤ 16777216 ∧ ∀ m' H' p vs, Ge m H m' H' → RS K m' (p :: B) H' S' → p ∉ B → H p = none → H' p = some (.lst vs) → RDs K m' (p :: B) H' ds vs → Q (.ref p) H'
  | _ => False
theorem lc2_core (rs : RS K m0 B H0 S0) (e : REs K m0 B H0 ρ σ) (hc : chk S0) (jy : JY K J m0 B H0 ds chk) (hix : ∀ i ∈ tg.ix, i ∈ vs) (hix1 : ∀ i ∈ tg1.ix, i ∈ vs1)
    (p : PostL2 K m0 B H0 Q (lc2I tg chk dt (innI tg1 di1 dt1 de vs1) (wipeD ρ vs) ds S0)) : ∀ Dl, H0 Dl = none → ∃ W : Nat → Nat → Hp → Prop, (∃ m, W 0 m (upd H0 Dl (.lst []))) ∧ ∀ i m H, W i m H →
      (J.stop i H ∧ Q (.ref Dl) H) ∨ (J.go i H ∧ ∃ Nx : Hp → Prop, (∀ H', Nx H' → ∃ m', m' < m ∧ W (i + 1) m' H') ∧ ∀ x H', J.yld i H x H' → gT K tg x (wipe σ vs) H' fun σ2 H2 => wipe σ2 vs = wipe σ vs ∧ tTe WF K dt σ2 H2 fun b H3 =>
        if b = true then tI WF K di1 σ2 H3 fun J1 H4 => ∃ W1 : Nat → Nat → Hp → Prop, (∃ m, W1 0 m H4) ∧ ∀ j k H, W1 j k H →
          (J1.stop j H ∧ Nx H) ∨ (J1.go j H ∧ ∃ Nx1 : Hp → Prop, (∀ H', Nx1 H' → ∃ k', k' < k ∧ W1 (j + 1) k' H') ∧ ∀ x H', J1.yld j H x H' → gT K tg1 x (wipe σ2 vs1) H' fun σ3 H5 => wipe σ3 vs1 = wipe σ2 vs1 ∧ tTe WF K dt1 σ3 H5 fun b H6 =>
            if b = true then tE WF K de σ3 H6 fun y H7 => ∃ acc, H7 Dl = some (.lst acc) ∧ acc.length < sizeLine ∧ Nx1 (upd H7 Dl (.lst (acc ++ [y]))) else Nx1 H6)
        else Nx H3) := by
  intro Dl hD
  have hDm : Dl ∉ m0 := rs.notin hD
  have hDB : Dl ∉ B := rs.notB hD
  let St := fun (i : Nat) (H : Hp) => i ≤ ds.length ∧ ∃ m S acc va, Ge m0 H0 m H ∧ Tr m0 B H0 m (Dl :: B) H ∧ RS K m (Dl :: B) H S ∧ chk S ∧ H Dl = some (.lst va) ∧ RDs K m (Dl :: B) H acc va ∧
    PostL2 K m0 B H0 Q ((lc2I tg chk dt (innI tg1 di1 dt1 de vs1) (wipeD ρ vs) (ds.drop i) S).bind fun ys S' => .ok (acc ++ ys) S')
  refine ⟨fun i k H => k = ds.length - i ∧ St i H, ⟨_, rfl, Nat.zero_le _, m0, S0, [], [], (rs.new hD).1, Tr.ban hD, rs.ban hD, hc, upd_same, RDs.nil, ?_⟩, ?_⟩
  · show PostL2 K m0 B H0 Q ((lc2I tg chk dt (innI tg1 di1 dt1 de vs1) (wipeD ρ vs) ds S0).bind fun ys S' => .ok ys S')
    cases h : lc2I tg chk dt (innI tg1 di1 dt1 de vs1) (wipeD ρ vs) ds S0 with
    | ok ys S' => rw [h] at p; exact p
    | exc c d S' => rw [h] at p; exact p
    | bad => rw [h] at p; exact p
  · rintro i k H ⟨rfl, hi, m, S, acc, va, g, tr, r, hch, hl, ra, p2⟩
    by_cases hlt : i < ds.length
    · refine .inr ⟨jy.go i m (Dl :: B) H S tr r hch hlt, St (i + 1), fun H' h => ⟨ds.length - (i + 1), by omega, rfl, h⟩, fun x H3 y => ?_⟩
      obtain ⟨ext, rx⟩ := jy.yl i m (Dl :: B) H S x H3 ds[i] tr r hch (by simp [hlt]) y
      obtain ⟨g3, r3⟩ := r.ext ext
      rw [List.drop_eq_getElem_cons hlt] at p2
      unfold lc2I at p2
      have ew : REs K m (Dl :: B) H3 (wipeD ρ vs) (wipe σ vs) := (e.mono (tr.trans g3.tr)).wipe vs
      cases ha : Tg.asg S tg ds[i] (wipeD ρ vs) with
      | none => rw [ha] at p2; exact (show False from p2).elim
      | some ρ1 =>
        rw [ha] at p2
        simp only at p2
        refine ⟨m, Dl :: B, S, _, wipeD ρ vs, ρ1, r3, rx, ew, ha, fun σ2 e2 sam => ⟨by rw [sam vs hix, wipe_wipe], m, Dl :: B, ρ1, S, r3, e2, ?_⟩⟩
        cases ht : dt ρ1 S with
        | exc _ _ _ => rw [ht] at p2; exact (show False from p2).elim
        | bad => rw [ht] at p2; exact (show False from p2).elim
        | ok b S1 =>
          rw [ht] at p2
          simp only [R.safe_ok, R.bind_ok] at p2
          refine fun m4 H4 g4 r4 => ?_
          have hl4 : H4 Dl = some (.lst va) := (g4.keep Dl _ (fun q => r3.dis Dl q (List.mem_cons_self ..)) (ext _ _ hl)).2
          have ra4 := RDs.mono (g3.tr.trans g4.tr) _ _ ra
          have gg := (g.trans g3).trans g4
          have tt := (tr.trans g3.tr).trans g4.tr
          cases b with
          | false =>
            rw [if_neg Bool.false_ne_true] at p2
            show St (i + 1) H4
            split at p2
            · rename_i hc1
              exact ⟨hlt, m4, S1, acc, va, gg, tt, r4, hc1, hl4, ra4, p2⟩
            · exact (show False from p2).elim
          | true =>
            rw [if_pos rfl] at p2
            show tI WF K di1 σ2 H4 _
            refine ⟨m4, Dl :: B, ρ1, S1, r4, e2.mono g4.tr, ?_⟩
            unfold innI at p2
            cases hi1 : di1 ρ1 S1 with
            | exc _ _ _ => rw [hi1] at p2; exact (show False from p2).elim
            | bad => rw [hi1] at p2; exact (show False from p2).elim
            | ok q S2 =>
              rw [hi1] at p2
              simp only [R.safe_ok, R.bind_ok] at p2
              refine fun m5 H5 g5 r5 hc5 J1 jy1 => ?_
              have hl5 : H5 Dl = some (.lst va) := (g5.keep Dl _ (fun q => r4.dis Dl q (List.mem_cons_self ..)) hl4).2
              have ra5 := RDs.mono g5.tr _ _ ra4
              refine lc_inner (acc := acc) (va := va) hD (gg.trans g5) r5 ((e2.mono g4.tr).mono g5.tr) hc5 jy1 hix1 hl5 ra5 ?_
              cases hin : lcI tg1 q.2 dt1 de (wipeD ρ1 vs1) q.1 S2 with
              | exc _ _ _ => rw [hin] at p2; exact (show False from p2).elim
              | bad => rw [hin] at p2; exact (show False from p2).elim
              | ok ys S3 =>
                rw [hin] at p2
                simp only [R.safe_ok, R.bind_ok] at p2 ⊢
                split at p2
                · rename_i hc3
                  have p3 : PostL2 K m0 B H0 Q ((lc2I tg chk dt (innI tg1 di1 dt1 de vs1) (wipeD ρ vs) (ds.drop (i + 1)) S3).bind fun zs S' => .ok ((acc ++ ys) ++ zs) S') := by
                    unfold innI
                    cases hr : lc2I tg chk dt (fun ρ S => (di1 ρ S).safe.bind fun p S1 => lcI tg1 p.2 dt1 de (wipeD ρ vs1) p.1 S1) (wipeD ρ vs) (ds.drop (i + 1)) S3 with
                    | ok zs S4 =>
                      rw [hr] at p2
                      simp only [R.bind_ok, List.append_assoc] at p2 ⊢
                      exact p2
                    | exc _ _ _ => rw [hr] at p2; exact (show False from p2).elim
                    | bad => rw [hr] at p2; exact (show False from p2).elim
                  refine ⟨?_, fun m6 H6 vb g6 t6 r6 hl6 ra6 => ⟨hlt, m6, S3, acc ++ ys, vb, g6, (tt.trans g5.tr).trans t6, r6, hc3, hl6, ra6, p3⟩⟩
                  cases hr : lc2I tg chk dt (innI tg1 di1 dt1 de vs1) (wipeD ρ vs) (ds.drop (i + 1)) S3 with
                  | ok zs S4 =>
                    rw [hr] at p3
                    have := p3.1
                    simp at this ⊢
                    omega
                  | exc _ _ _ => rw [hr] at p3; exact (show False from p3).elim
                  | bad => rw [hr] at p3; exact (show False from p3).elim
                · exact (show False from p2).elim
    · have e' : i = ds.length := by omega
      subst e'
      rw [List.drop_length] at p2
      simp only [lc2I, R.bind_ok, List.append_nil] at p2
      exact .inl ⟨jy.st _ m (Dl :: B) H S tr r hch (Nat.le_refl _), p2.2 m H Dl va g r hDB hD hl ra⟩
end
section
variable {X : Cx} {pos spos : Pos} {elt t iter t1 iter1 : Expr} {ifs ifs1 : List Expr} {scope : Scope} {own : List (Str × Nat)} {tg tg1 : Tg} {di di1 : DI} {dt dt1 : DT} {de : DE}
theorem tlc2_weak {K : PySem.W.Frag} {W : WX} {vs vs1 : List Nat} (hix : ∀ i ∈ tg.ix, i ∈ vs) (hix1 : ∀ i ∈ tg1.ix, i ∈ vs1) (σ : L2.St) (H : Hp) (Q : VK) (h : tL W K (lLc2 tg di dt tg1 di1 dt1 de vs vs1) σ H Q) : tLc2 (tI W K di) (gT K tg) (tTe WF K dt) (tI WF K di1) (gT K tg1) (tTe WF K dt1) (tE WF K de) vs vs1 σ H Q := by
  obtain ⟨m, B, ρ, S, rs, e, p⟩ := h
  refine ⟨m, B, ρ, S, rs, e, ?_⟩
  unfold lLc2 at p
  cases hd : di ρ S with
  | ok q S1 =>
    rw [hd] at p
    simp only [R.bind_ok] at p
    refine fun m1 H1 g1 r1 hc J jy => ?_
    refine lc2_core r1 (e.mono g1.tr) hc jy hix hix1 ?_
    cases h : lc2I tg q.2 dt (innI tg1 di1 dt1 de vs1) (wipeD ρ vs) q.1 S1 with
    | ok ys S' =>
      rw [h] at p
      simp only [R.safe_ok, R.bind_ok] at p
      split at p
      · rename_i hz
        refine ⟨hz, fun m2 H2 pp va g2 r2 hB h0 h2 rv => p m2 H2 pp va (g1.trans g2) r2 hB ?_ h2 rv⟩
        exact g1.new_was (r1.notin h0) h0
      · exact (show False from p).elim
    | exc c d S' => rw [h] at p; exact (show False from p).elim
    | bad => rw [h] at p; exact (show False from p).elim
  | exc c d S1 => rw [hd] at p; exact p
  | bad => rw [hd] at p; exact p
theorem zl_lc2 {vs1 : List Nat} (hc : X.calm = true) (hN : X.N.Nodup) (hi : ZI X t iter di) (ok : BlkOk X.N X.env.scope scope own) (hix : ∀ i ∈ tg.ix, i ∈ own.map (·.2)) (hix1 : ∀ i ∈ tg1.ix, i ∈ vs1) (hv : ∀ i ∈ vs1, i ∈ own.map (·.2))
    (hg : ∀ (s : Shared) (H : Hp) (C : Addr) (cl : List (Str × Addr)) (fp : List Addr), ZG (X.blk s H scope (compEnvC scope cl C X.env) fp) t tg) (ht : ∀ (s : Shared) (H : Hp) (C : Addr) (cl : List (Str × Addr)) (fp : List Addr), ZTs (X.blk s H scope (compEnvC scope cl C X.env) fp) ifs dt)
    (hi1 : ∀ (s : Shared) (H : Hp) (C : Addr) (cl : List (Str × Addr)) (fp : List Addr), ZI (X.blk s H scope (compEnvC scope cl C X.env) fp) t1 iter1 di1)
    (hg1 : ∀ (s : Shared) (H : Hp) (C : Addr) (cl : List (Str × Addr)) (fp : List Addr), ZG (X.blk s H scope (compEnvC scope cl C X.env) fp) t1 tg1) (ht1 : ∀ (s : Shared) (H : Hp) (C : Addr) (cl : List (Str × Addr)) (fp : List Addr), ZTs (X.blk s H scope (compEnvC scope cl C X.env) fp) ifs1 dt1)
    (he : ∀ (s : Shared) (H : Hp) (C : Addr) (cl : List (Str × Addr)) (fp : List Addr), ZE (X.blk s H scope (compEnvC scope cl C X.env) fp) elt de) (hs : ∀ x, foldedSetIterable iter X.env x = pure x := by intro _; rfl) (hs1 : ∀ env x, foldedSetIterable iter1 env x = pure x := by intro _ _; rfl) :
    ZL X (.ListComp elt [⟨t, iter, ifs, 0⟩, ⟨t1, iter1, ifs1, 0⟩] scope pos) (lLc2 tg di dt tg1 di1 dt1 de (own.map (·.2)) vs1) := fun W tk =>
  pe_weak (pe_lc2 (g := gT X.K tg) (tt := tTe WF X.K dt) (wi1 := tI WF X.K di1) (g1 := gT X.K tg1) (tt1 := tTe WF X.K dt1) (te := tE WF X.K de) hc hN (hi W tk) ok hv (fun s H C cl fp => hg s H C cl fp) (fun s H C cl fp => ht s H C cl fp WF takes0)
    (fun s H C cl fp => hi1 s H C cl fp WF takes0) (fun s H C cl fp => hg1 s H C cl fp) (fun s H C cl fp => ht1 s H C cl fp WF takes0) (fun s H C cl fp => he s H C cl fp WF takes0) hs hs1) fun σ H Q h => tlc2_weak hix hix1 σ H Q h
end
end Z
namespace Z
open PySem PySem.W PySem.Calls PyProof.Rows PySem.HandSPX

/-! ### an own error whose __init__ says super().__init__(at); self.at = at -/
/-- the text of that __init__ -/
def eiBody (p0 p1 p2 p3 p4 p5 q1 q2 q3 q4 : Pos) : List Stmt :=
  [.Expr (.Call (.Attribute (.Call (.Name "super" p0) [] [] p1) "__init__" p2) [.Name "at" p3] [] p4) p5, .Assign [.Attribute (.Name "self" q1) "at" q2] (.Name "at" q3) q4]
def eiArgs (p1 p2 : Pos) : Arguments := { posonlyargs := [], args := [{ arg := "self", annotation := none, pos := p1 }, { arg := "at", annotation := none, pos := p2 }], vararg := none, kwonlyargs := [], kw_defaults := [], kwarg := none, defaults := [] }
def eiScope : Scope := { kind := .function, names := [(PySem.Str.ofString "self", .local), (PySem.Str.ofString "at", .local), (PySem.Str.ofString "__class__", .free), (PySem.Str.ofString "super", .globalImplicit)], isGenerator := false, isCoroutine := false, more := [] }
/-- the call of super().__init__ is a plain call of a method: so at the text's own places -/
def EiCall (p0 p1 p2 p3 p4 : Pos) : Prop := ∀ env : PySem.Env, ∃ pl : Sem Bool, eval (.Call (.Attribute (.Call (.Name "super" p0) [] [] p1) "__init__" p2) [.Name "at" p3] [] p4) env = (do
  let ov ← attributeBase (.Call (.Name "super" p0) [] [] p1) "__init__" env (eval (.Call (.Name "super" p0) [] [] p1) env)
  standAt p2.atName
  let (f, first) ← holding [ov] (getMethod ov "__init__" pl)
  callWith p4 f first (backTo p4 (starEach [.Name "at" p3] env)) [])
/-- what the written part says of such a class, at C -/
structure ErrC (K : Frag) (prog : Program) (C : Addr) : Prop where
  cls : ∃ nm q N bs bm sn sub ab col dd k0 k1 k2 k3 k5, K.lookup C = some (excClassObj nm q C N bs bm true sn sub ab col dd k0 k1 k2 k3 k5 "ValueError.__new__") ∧ refsVE bm = true ∧ alongIn K "__init__" bm = some (some (.builtin "ValueError.__init__"))
  sa : findIn K (.ref C) "__setattr__" = some (some (.builtin "object.__setattr__"))
  no : findIn K (.ref C) "at" = some none
  sub : subIn K (.ref C) (.type "BaseException") = some true
  ty : typeIn K (.ref C) = some (.type "type")
  kp : keepIn K (.ref C) = true
  op : nsIn K cStatics "thirdparty.any" = some none
  file : (prog.main.scope.names.lookup ("super" : Str)).isSome = false
  fn : ∃ (fI cc cda : Addr) (qual : Str) (p0 p1 p2 p3 p4 p5 q1 q2 q3 q4 r1 r2 : Pos) (oc doc pm ct ccl cl : Value) (od an cdd cld : Option Addr) (osl ccs csl : Array (Option Value)) (vs : Array Value) (fs : Str) (tf : Tok),
    findIn K (.ref C) "__init__" = some (some (.ref fI)) ∧ typeIn K (.ref fI) = some (.type "function") ∧
    K.lookup fI = some ⟨oc, od, .func (ksFn "__init__" qual (eiArgs r1 r2) (eiBody p0 p1 p2 p3 p4 p5 q1 q2 q3 q4) eiScope .none .none doc pm an (.ref cda) ct cc), osl⟩ ∧ codeIn K (.ref cda) qual = true ∧
    K.lookup cda = some ⟨ccl, cdd, .fields vs, ccs⟩ ∧ vs[2]? = some (.str fs tf) ∧ ((prog.main.file : Str) == fs) = true ∧ EiCall p0 p1 p2 p3 p4 ∧ K.lookup cc = some ⟨cl, cld, .cell (some (.ref C)), csl⟩
/-- what is left of a fresh error at x -/
structure EiEnd (h h' : Heap) (x C dx : Addr) (v : Value) : Prop where
  keep : ∀ b o, b ≠ x → h.get? b = some o → h'.get? b = some o
  obj : ∃ t1, h'.get? x = some { cls := .ref C, dict := some dx, data := .fields #[.ref t1, .none, .none, .none, .bool false, .none] }
  dbig : h.objs.size ≤ dx
  dne : dx ≠ x
  ns : h'.Ns1 dx (fun y => if y = "at" then some v else none)
section
variable {prog : Program} {w : World} {A : Around} {E : Value → Shared → Prop} {R : Result → Shared → Prop} {s : Shared} {K : Frag}
theorem mw_call {h : Heap} {g : Array GenState} {d : Drawn} {t : Nat} {os : OsState} {nm q : Str} {C N u e t0 : Addr} {bs bm : List Value} {hdct : Bool} {sn : List Str} {sub : List Value} {ab : Bool} {col : Option Bool} {dd : Option Addr} {k0 k1 k2 k3 k5 : Option Value} {rest : List Value} {Q : Value → Shared → Prop}
    (hC : h.get? C = some (excClassObj nm q C N bs bm hdct sn sub ab col dd k0 k1 k2 k3 k5 "ValueError.__new__")) (he : h.get? e = some (HandSPX.excO C t0)) (hu : h.get? u = some (kxs_mw "ValueError.__init__" e)) (hz : rest.length ≤ sizeLine)
    (hq : ∀ h' t1, (∀ b o, b ≠ e → h.get? b = some o → h'.get? b = some o) → h'.get? e = some (HandSPX.excO C t1) → Q .none ⟨h', g, d, t, os⟩) : wpAny (model prog w) A (call (.ref u) rest) Q E ⟨h, g, d, t, os⟩ := by
  refine wpAny_call (codeAny_of_tree ?_)
  show wpAny _ A.in1 (callAny (.ref u) ⟨rest, []⟩) _ _ _
  simp only [callAny]
  refine wpAny_bind (wpAny_load hu ?_)
  have e1 : (Value.type "method-wrapper" == Value.type "method" || Value.type "method-wrapper" == Value.type "builtin_function_or_method" || Value.type "method-wrapper" == Value.type "method-wrapper") = true := by decide
  simp only [kxs_mw, e1, if_true]
  refine KFB.if_so (by decide) ?_
  refine wpAny_bind (check_bound_init F.excBase_ValueError.toExcCallFacts hC he rfl ?_)
  refine wpAny_bind (wpAny_pure (wpAny_pure ?_))
  refine ⟨plainId_quiet F.excBase_ValueError.init.plain _, codeAny_builtin F.excBase_ValueError.initEntry ?_⟩
  exact exc_init_tree (cls := .ref C) (t0 := t0) (dv := none) (c2 := .none) (c3 := .none) (b4 := .bool false) he hz fun h' k e' _ => hq h' _ k e'
theorem ei_run {C fI x t0 : Addr} {v : Value} {mg mb : Str → Option Value} (T : ErrC K prog C) (X : K.In s.heap) (hg : s.heap.Ns mainGlobals mg) (hmg : mg "super" = none) (hb : s.heap.Ns builtinsNs mb) (hmb : mb "super" = some (.type "super")) (hlim : s.heap.NoLimit)
    (hi : findIn K (.ref C) "__init__" = some (some (.ref fI))) (hx : s.heap.get? x = some (HandSPX.excO C t0)) (hxK : K.lookup x = none) (hroom : A.depth < recursionLimit)
    (hq : ∀ h' tk dx, EiEnd s.heap h' x C dx v → R (.ok (.ret .none)) { s with heap := h', toks := tk }) : codeAny (model prog w) A (.call (.ref fI) ⟨[.ref x, v], []⟩) R s := by
  obtain ⟨fI', cc, cda, qual, p0, p1, p2, p3, p4, p5, q1, q2, q3, q4, r1, r2, oc, doc, pm, ct, ccl, cl, od, an, cdd, cld, osl, ccs, csl, vs, fs, tf, hi', tI, ho, hcd, hcode, hvs, hfile, hec, hcell⟩ := T.fn
  rw [hi] at hi'
  cases hi'
  obtain ⟨nm, q, N, bs, bm, sn, sub, ab, col, dd, k0, k1, k2, k3, k5, hC, hbm, hal⟩ := T.cls
  have hcl : clsIn K C = some { name := nm, bases := bs, mro := .ref C :: bm, ns := N, qualname := q, hasDict := true, slotNames := sn, subclasses := sub, abstract := ab, collection := col, hasDel := false } := by unfold clsIn; rw [hC] <;> rfl
  have hmro : mroIn K C (.ref C) = some true := by
    unfold mroIn
    rw [hcl]
    simp
  refine ks_codeAny_call_defAt (fd := ksFn "__init__" qual (eiArgs r1 r2) (eiBody p0 p1 p2 p3 p4 p5 q1 q2 q3 q4) eiScope .none .none doc pm an (.ref cda) ct cc) (args := ⟨[.ref x, v], []⟩) (binds := [("self", .ref x), ("at", v)]) hroom (X _ _ ho) rfl hlim (codeRec_of X hcd) rfl
    (BindsTo.of_eq (by first | rfl | with_unfolding_all rfl)) (by show ∀ x ∈ eiScope.names, x.2 ≠ .cell; decide) (fun y hy => by
      rcases List.mem_cons.mp hy with e | e
      · rw [e]; rfl
      · rw [List.mem_singleton.mp e]; rfl) (fun h₁ hns hk => ?_)
  have X1 : K.In h₁ := X.keeps hk
  have hx1 := hk _ _ hx
  have hnx : x ≠ C := by
    intro e
    have q := X _ _ hC
    rw [← e, hx] at q
    cases q
  obtain ⟨oD, hD1, hD2⟩ : ∃ oD, h₁.get? C = some oD ∧ oD.data = .cls { name := nm, bases := bs, mro := .ref C :: bm, ns := N, qualname := q, hasDict := true, slotNames := sn, subclasses := sub, abstract := ab, collection := col, hasDel := false } := ⟨_, X1 _ _ hC, rfl⟩
  obtain ⟨hp0, g, dr, tk0, os⟩ := s
  obtain ⟨pl, hpl⟩ := hec (callEnv (ksFn "__init__" qual (eiArgs r1 r2) (eiBody p0 p1 p2 p3 p4 p5 q1 q2 q3 q4) eiScope .none .none doc pm an (.ref cda) ct cc) hp0.objs.size fI)
  refine ks_wpAt_execs_cons (ks_wpAt_Expr_any (ks_wpAt_MethodCall (pl := pl) ?_ hpl))
  refine ks_wpAt_super_base (prog := prog) (w := w) rfl rfl rfl rfl (X1 _ _ ho) rfl rfl rfl (X1 _ _ hcode) rfl hvs hfile T.file ?_
  refine ks_loadName_global rfl rfl (loadGlobal_builtin (hg.keeps hk) hmg (hb.keeps hk) hmb ⟨rfl, ?_⟩)
  refine wpAny_loadName_free rfl rfl rfl ⟨_, X1 _ _ hcell, rfl⟩ ?_
  refine wpAny_loadName_local rfl rfl hns rfl ?_
  refine ks_wpAny_isType_cls hD1 hD2 ⟨rfl, ?_⟩
  refine ks_wpAny_call_super hD1 hD2 hx1 rfl (fun c e => by cases e) (looks_mroIn X1 hmro) (fun h2 e2 kk2 => ?_)
  have X2 : K.In h2 := X1.keeps kk2
  have hx2 := kk2 _ _ hx1
  have I2 : InstAt h2 x (HandSPX.excO C t0) C none := ⟨hx2, rfl, rfl, trivial⟩
  have hVE : subIn K (.ref C) (.type "ValueError") = some true := by
    show mroIn K C (.type "ValueError") = some true
    have q2 := refsVE_contains "ValueError" bm hbm
    unfold mroIn
    rw [hcl]
    have q3 : (Value.ref C :: bm).contains (.type "ValueError") = true := by
      rw [List.contains_cons, q2]
      rfl
    simp only [Option.bind_some]
    rw [q3]
    rfl
  refine kxs_getMethod kxs_ValueError e2 (looks_opaque X2 T.op) (l₀ := .ref C :: bm) (fun A Q E s k q => wpAny_bind ((looks_clsIn X2 hcl) A _ E s k (wpAny_pure q))) (l := bm) (by simp [List.dropWhile_cons]) X2 hal (I2.type.andThen (looks_subIn X2 hVE)) hnx rfl ?_
  have hk3 : ∀ b o, h2.get? b = some o → (h2.push (kxs_mw "ValueError.__init__" x)).get? b = some o := fun b o e => Heap.get?_push_of_some _ e
  have hu3 : (h2.push (kxs_mw "ValueError.__init__" x)).get? h2.objs.size = some (kxs_mw "ValueError.__init__" x) := Heap.get?_push_size _ rfl
  have hns3 := (hns.keeps kk2).keeps hk3
  refine kxs_callWith (i := "ValueError.__init__") (x := x) rfl ?_
  refine evalArgs_plain (spliced_more (e := .Name "at" p3) (rest := []) (pos := p4) (wpAny_Name (wpAny_loadName_local rfl rfl hns3 rfl ?_) (by decide)) rfl)
  refine spliced_none ⟨hu3, ?_⟩
  refine mw_call (hk3 _ _ (X2 _ _ hC)) (hk3 _ _ hx2) hu3 (by show 1 ≤ sizeLine; rw [sizeLine_eq]; decide) fun h4 t1 k4 hx4 => ?_
  have X4 : K.In h4 := fun a o e => k4 a o (fun z => by rw [z, hxK] at e; cases e) (hk3 _ _ (X2 _ _ e))
  -- self.at = at
  have hnsL : ∀ b o, h₁.get? b = some o → b ≠ x → h4.get? b = some o := fun b o e ne => k4 b o ne (hk3 _ _ (kk2 _ _ e))
  have hxL : hp0.objs.size ≠ x := Nat.ne_of_gt (Heap.lt_size hx)
  have hns4 : h4.Ns hp0.objs.size (fun y => ([("self", .ref x), ("at", v)] : List (Str × Value)).reverse.lookup y) := hns3.at fun o e => k4 _ o hxL e
  refine wpAt_of_wpAny ?_
  show wpAny _ _ (execs _ _) _ _ _
  refine wpAny_execs_cons (plainObj_wpAny_Assign_Attribute ?_)
  refine wpAny_Name (wpAny_loadName_local rfl rfl hns4 rfl ?_) (by decide)
  refine wpAny_Name (wpAny_loadName_local rfl rfl hns4 rfl ?_) (by decide)
  refine set_plain X4 (ox := HandSPX.excO C t1) (od := none) ⟨hx4, rfl, rfl, trivial⟩ T.sa ?_
  refine exc_osa X4 hx4 hcl (show refsVE (.ref C :: bm) = true from hbm) rfl T.no (fun h5 tk5 dx k5 dn dne hx5 hn5 => ?_)
  show wpAny _ _ (execs _ _) _ _ _
  have old : ∀ b o, hp0.get? b = some o → b ≠ x → h4.get? b = some o := fun b o e ne => hnsL b o (hk b o e) ne
  refine wpAny_execs_nil (hq h5 tk5 dx ⟨fun b o hb e => k5 b o hb (old b o e hb), ⟨_, hx5⟩, ?_, dne, hn5⟩)
  exact Nat.le_trans (Nat.le_of_lt hns4.lt) dn
end
end Z
namespace Z
open PySem PySem.Spec PyProof.Rows L2

/-! ### raise E(at) -/
/-- a made error at e, its dict at d -/
structure ErrMade (h h' : Heap) (e C d : Addr) (v : Value) : Prop where
  keep : ∀ b o, h.get? b = some o → h'.get? b = some o
  big : h.objs.size ≤ e
  obj : ∃ t1, h'.get? e = some { cls := .ref C, dict := some d, data := .fields #[.ref t1, .none, .none, .none, .bool false, .none] }
  dbig : h.objs.size ≤ d
  dne : d ≠ e
  ns : h'.Ns1 d (fun y => if y = "at" then some v else none)
theorem err_made {prog : Program} {w : World} {A : Around} {R : Result → Shared → Prop} {s : Shared} {K : PySem.W.Frag} {C : Addr} {v : Value} {mg mb : Str → Option Value} (T : ErrC K prog C) (X : K.In s.heap) (hg : s.heap.Ns mainGlobals mg) (hmg : mg "super" = none) (hb : s.heap.Ns builtinsNs mb) (hmb : mb "super" = some (.type "super"))
    (hlim : s.heap.NoLimit) (hroom : A.depth + 1 < recursionLimit) (hq : ∀ h' tk e d, ErrMade s.heap h' e C d v → R (.ok (.ret (.ref e))) { s with heap := h', toks := tk }) : codeAny (model prog w) A (.call (.ref C) ⟨[v], []⟩) R s := by
  obtain ⟨nm, q, N, bs, bm, sn, sub, ab, col, dd, k0, k1, k2, k3, k5, hC, hbm, _⟩ := T.cls
  obtain ⟨fI, _, _, _, _, _, _, _, _, _, _, _, _, _, _, _, _, _, _, _, _, _, _, _, _, _, _, _, _, _, _, _, hi, tI, _⟩ := T.fn
  obtain ⟨hp, g, dr, tk, os⟩ := s
  have k : ∀ b o, hp.get? b = some o → ((hp.push (PySem.W.kdv_tup [v])).push (PySem.HandSPX.excO C hp.objs.size)).get? b = some o := fun b o e => Heap.get?_push_of_some _ (Heap.get?_push_of_some _ e)
  have hget : ((hp.push (PySem.W.kdv_tup [v])).push (PySem.HandSPX.excO C hp.objs.size)).get? (hp.objs.size + 1) = some (PySem.HandSPX.excO C hp.objs.size) := by heap_get
  have hnx : K.lookup (hp.objs.size + 1) = none := by
    cases e : K.lookup (hp.objs.size + 1) with
    | none => rfl
    | some o =>
      have lt := Heap.lt_size (X _ _ e)
      have lt' : hp.objs.size + 1 < hp.objs.size := lt
      exact absurd lt' (by omega)
  have hsz : [v].length ≤ sizeLine := by rw [sizeLine_eq]; exact (by decide : 1 ≤ 16777216)
  refine PySem.HandSPX.call_own F.excBase_ValueError (fun X => PySem.HandSPX.refsVE_contains X bm hbm) (X _ _ hC) (PySem.W.looks_findIn X hi) (fun self => PySem.W.bind_fn X self tI) hsz ?_
  refine ei_run (s := ⟨(hp.push (PySem.W.kdv_tup [v])).push (PySem.HandSPX.excO C hp.objs.size), g, dr, tk, os⟩) T (X.keeps k) (hg.keeps k) hmg (hb.keeps k) hmb (hlim.keeps k) hi hget hnx hroom fun h' tk' dx ⟨k', hx, dn, dne, hns⟩ => ?_
  have old : ∀ b o, hp.get? b = some o → h'.get? b = some o := fun b o e => k' b o (Nat.ne_of_lt (Nat.lt_succ_of_lt (Heap.lt_size e))) (k b o e)
  have z : hp.objs.size ≤ dx := by
    have q := dn
    rw [Heap.size_push, Heap.size_push] at q
    omega
  exact ⟨rfl, hq h' tk' (hp.objs.size + 1) dx ⟨old, Nat.le_succ _, hx, z, dne, hns⟩⟩
theorem relO_at {v : V} {v' : Value} (r : RelV v v') (f : Str) : RelO (List.lookup f [(("at" : Str), v)]) (if f = "at" then some v' else none) := by
  by_cases hw : f = "at"
  · subst hw
    rw [if_pos rfl]
    have q : List.lookup ("at" : Str) [(("at" : Str), v)] = some v := by simp [List.lookup]
    rw [q]
    exact r
  · rw [if_neg hw]
    have qw : (f == ("at" : Str)) = false := by simpa using hw
    have q2 : List.lookup f [(("at" : Str), v)] = none := by simp [List.lookup, qw]
    rw [q2]
    trivial
/-- E(x) -/
def tMkE (C : Addr) (ta : TA) : L2.St → Hp → XK → Prop := fun σ H Q => ta σ H fun vs H1 => ∃ v, vs = [v] ∧ ∀ d, H1 d = none → Q (.ref C) (some d) (upd H1 d (.xd [(("at" : Str), v)]))
section
variable {X : Cx} {C : Addr} {x : Str} {a : Expr} {ta : TA} {p pos pos2 : Pos} {k : Nat} {da : DE}
theorem pmk_err (T : ErrC X.K X.prog C) (hm : X.mg x = some (.ref C)) (hms : X.mg "super" = none) (hr : Room k X.A) (ha : PA X [a] ta) (hg : Gl X x := by rfl) (hdb : (x == ("__debug__" : Str)) = false := by decide)
    (he : starEach (a :: []) X.env = (false, eval a X.env) :: starEach [] X.env := by rfl) (hpl : (backTo pos (starEach [] X.env)).any (·.1) = false := by rfl) : PMk X (.Call (.Name x p) [a] [] pos) (tMkE C ta) := by
  intro pins s σ H Q I h
  refine wpAny_Call_Name_kw (ld_glob I hg hm ?_ hdb)
  refine PySem.W.callWith_K (h₀ := X.base) I.ok.mod.kin T.kp (thn (ha.run pos pins s σ H _ I h) fun us s1 hh => ?_) he hpl
  obtain ⟨vs, H1, I1, r1, v, ev, q1⟩ := hh
  subst ev
  refine ⟨I1.kIn, ?_⟩
  obtain ⟨v', rfl, rv⟩ : ∃ v', us = [v'] ∧ RelV v v' := by
    cases r1 with
    | cons rv rn => cases rn; exact ⟨_, rfl, rv⟩
  have hlim := I1.nolimit
  obtain ⟨mb, hb1, hb2⟩ := I1.mod.blt
  have gl : s1.heap.Ns mainGlobals X.mg := I1.mod.glob.keeps I1.bk
  have bl : s1.heap.Ns builtinsNs mb := hb1.keeps I1.bk
  obtain ⟨hp, g, dr, tk, os⟩ := s1
  refine wpAny_call (err_made T I1.kIn gl hms bl ((hb2 _ (by decide +kernel)).trans (by decide +kernel)) hlim (by have := hr.dp; omega) fun h' tk' e d M => ?_)
  show MkP X pins σ Q (.ref e) ⟨h', g, dr, tk', os⟩
  obtain ⟨t1, hoe⟩ := M.obj
  have hns := M.ns
  obtain ⟨G', g1, g2⟩ := restrict h' fun b => decide (b ≠ e)
  have gk : ∀ b, b ≠ e → G'.get? b = h'.get? b := fun b hb => g1 b (decide_eq_true hb)
  have ge : G'.get? e = none := g2 e (by simp)
  have old : ∀ b o, hp.get? b = some o → G'.get? b = some o := fun b o q => (gk b (Nat.ne_of_lt (Nat.lt_of_lt_of_le (Heap.lt_size q) M.big))).trans (M.keep b o q)
  have ob : ObjOk X.prog X.w (upd H1 d (.xd [(("at" : Str), v)])) G' d (.xd [(("at" : Str), v)]) := ⟨_, hns.at (fun o q => (gk d M.dne).trans q), fun f => relO_at rv f⟩
  have J : Inv X pins σ (upd H1 d (.xd [(("at" : Str), v)])) ⟨G', g, dr, tk', os⟩ := I1.laid (t' := tk') old M.dbig ob
  refine ⟨e, _, _, ⟨G', g, dr, tk', os⟩, _, .ref C, some d, rfl, J, fun b o q => ?_, ge, hoe, ⟨rfl, rfl⟩, rfl, rfl, ?_, rfl, I1.bare, raises_own T.sub T.ty, q1 d (I1.hok.fresh M.dbig)⟩
  · by_cases hb : b = e
    · have q' : G'.get? b = some o := q
      rw [hb, ge] at q'
      cases q'
    · exact (gk b hb).symm.trans q
  · rw [upd_ne (Ne.symm M.dne)]
    exact I1.hok.fresh M.big
def sRaise (C : Addr) (a : DE) : DS := fun ρ S => (a ρ S).to ρ fun d S1 => .exc ρ C d S1
theorem zs_raise (hc : X.calm = true) (T : ErrC X.K X.prog C) (hm : X.mg x = some (.ref C)) (hms : X.mg "super" = none) (hr : Room k X.A) (ha : ZE X a da) (hg : Gl X x := by rfl) (hdb : (x == ("__debug__" : Str)) = false := by decide)
    (he : starEach (a :: []) X.env = (false, eval a X.env) :: starEach [] X.env := by rfl) (hpl : (backTo pos (starEach [] X.env)).any (·.1) = false := by rfl) : ZS X (.Raise (some (.Call (.Name x p) [a] [] pos)) none pos2) (sRaise C da) := fun W tk =>
  ps_weak (ps_raise hc tk (pmk_err T hm hms hr ((za_cons ha za_nil he) W tk) hg hdb he hpl)) fun E σ H ⟨m, B, ρ, S, rs, e, p⟩ => by
    unfold sRaise at p
    refine ⟨m, B, ρ, S, rs, e, ?_⟩
    unfold aC
    cases h1 : da ρ S with
    | bad => rw [h1] at p; exact p
    | exc c d S' => rw [h1] at p; exact fun m' H' x v g r hx rv => p m' H' σ x v g r (e.mono g.tr) hx rv
    | ok d S1 =>
      rw [h1] at p
      refine fun m1 H1 g1 r1 vs rv => ?_
      obtain ⟨v, rfl, rv1⟩ := rv.one
      refine ⟨v, rfl, fun q hq => ?_⟩
      obtain ⟨g2, r2⟩ := r1.new (u := .xd [(("at" : Str), v)]) hq
      exact p m1 _ σ q v (g1.trans g2) r2 ((e.mono g1.tr).mono g2.tr) upd_same (rv1.mono g2.tr)
end
end Z
namespace Z
open PySem PySem.W PySem.Spec PySem.Calls PyProof.Rows L2

/-! ### isinstance of a caught error that has its dict -/
section
variable {prog : Program} {w : World} {A : Around} {E : Value → Shared → Prop} {s : Shared} {K : Frag} {x D : Addr} {ox : Obj} {od : Obj}
theorem classE {Q : Option Value → Shared → Prop} (T : ExcC K D) (X : K.In s.heap) (I : InstAt s.heap x ox D (some od)) (h : Q (some (.ref D)) { s with toks := s.toks + 1 }) : wpAny (model prog w) A (getAttr? (.ref x) "__class__") Q E s := by
  have hf : findObj K D (some od) "__class__" = some (.bind (.builtin "getset_descriptor.__get__") (.builtin "object.__class__")) := findObj_data (by obtain ⟨cd, hc, _⟩ := any_some T.hd; rw [hc]; rfl) T.ha T.hn T.ht
  obtain ⟨hp, g, d, t, os⟩ := s
  have L0 := I.type (M := model prog w)
  have l1 := looks_findIn (M := model prog w) X T.hg
  have l2 := looks_findIn (M := model prog w) X T.hk
  have l3 := looks_find (M := model prog w) X I hf
  have sub : Looks (model prog w) hp (isInstance (.ref x) (.type "BaseException")) true := L0.andThen (looks_subIn X T.hs)
  have n0 : (false && onTheHeap (Value.builtin "BaseException.__getattribute__")) = false := rfl
  have n2 : (Value.builtin "BaseException.__getattribute__" == Value.builtin "object.__getattribute__") = false := by decide +kernel
  have n1 : (onTheHeap (Value.ref D) && Value.builtin "BaseException.__getattribute__" == Value.builtin "object.__getattribute__") = false := by rw [n2]; rfl
  unfold getAttr? getAttrBy? getAttrBy
  refine wpAny_bind (wpAny_mkText (wpAny_bind (wpAny_attempt (wpAny_holding (wpAny_bind (L0.at (wpAny_bind (l1.at ?_))))))))
  show wpAny _ _ (if (onTheHeap (Value.ref D) && Value.builtin "BaseException.__getattribute__" == Value.builtin "object.__getattribute__") = true then _ else _) _ _ _
  rw [n1, if_neg Bool.false_ne_true]
  unfold getAttrByItsOwn hookBefore
  refine wpAny_bind ?_
  rw [if_pos (show onTheHeap (Value.ref D) = true from rfl)]
  refine l2.at (wpAny_bind (wpAny_attempt (wpAny_holding ?_)))
  unfold callGetattribute
  rw [n0, if_neg Bool.false_ne_true]
  unfold boundAndCalled
  rw [PySem.F.excAttr_ValueError.ga.bind (.ref x)]
  refine wpAny_bind (wpAny_pure ?_)
  show wpAny _ _ (call (.builtin "BaseException.__getattribute__") [.ref x, .str "__class__" t]) _ _ _
  refine wpAny_call (codeAny_call_builtin PySem.F.excAttr_ValueError.ga.plain PySem.F.entry_bexc_ga ?_)
  refine @check_slot (model prog w) _ _ ⟨hp, g, d, t + 1, os⟩ "BaseException.__getattribute__" "BaseException" "__getattribute__" (.ref x) [.str "__class__" t] [] _ (by decide +kernel) (by decide +kernel) sub (PySem.F.args_bexc_ga (.ref x) (.str "__class__" t)) ?_
  unfold Builtin.«object.__getattribute__»
  refine wpAny_bind (wpAny_of_eq (a := ((Value.ref x : Value), [Value.str "__class__" t])) (by first | rfl | (simp only [slotArgs]; rfl)) ?_)
  refine wpAny_bind (wpAny_pure (wpAny_bind (L0.at (wpAny_bind (l3.at ?_)))))
  show wpAny _ _ (holding [Value.builtin "object.__class__"] (call (.builtin "getset_descriptor.__get__") [.builtin "object.__class__", .ref x, .ref D]) >>= ret) _ _ _
  refine wpAny_bind (wpAny_holding (wpAny_call (class_get (s := ⟨hp, g, d, t + 1, os⟩) (ox := ox) (od := some od) X I T.hm ?_)))
  refine wpAny_pure ?_
  show wpAny _ _ (handedOut (.ref D)) _ _ _
  rw [handedOut_of (v := .ref D) rfl]
  first
    | exact wpAny_pure (wpAny_pure h)
    | exact wpAny_pure h
    | exact wpAny_pure (wpAny_bind (wpAny_pure (wpAny_pure h)))
theorem kitx_err (T : ExcC K D) : KitX K (.ref x) (.ref D) (fun h => InstAt h x ox D (some od)) where
  ty := fun _ _ _ I => I.type
  it := fun _ _ X _ => by
    obtain ⟨cd, hc, _⟩ := any_some T.hd
    unfold clsIn at hc
    split at hc
    · rename_i c' d' cd' sl' ho
      exact fun A' Q' E' s' k q => by
        unfold isType loadHead
        exact wpAny_bind (wpAny_loadPart (k _ _ (X _ _ ho)) (wpAny_pure q))
    · cases hc
  ne := fun h tp dd its n sl X htp => by
    obtain ⟨cd, hc, _⟩ := any_some T.hd
    refine Bool.eq_false_iff.mpr fun q => ?_
    have e : D = tp := Value.ref.inj (beq_iff_eq.mp q)
    subst e
    unfold clsIn at hc
    split at hc
    · rename_i c' d' cd' sl' ho
      have z := (X _ _ ho).symm.trans htp
      cases z
    · cases hc
  ca := fun X I k => classE T X I k
end
/-- isinstance(e, c), e the error that the suite holds -/
def rIsX (K : PySem.W.Frag) (a : Addr) (cls : Value) (dd : Option Addr) : List V → Hp → VK → Prop := fun xs H Q => ∃ (c : V) (cv : Value) (D x : Addr) (fs : List (Str × V)) (b : Bool), xs = [.ref a, c] ∧ (∀ u, RelV c u → u = cv) ∧ cls = .ref D ∧ dd = some x ∧ H x = some (.xd fs) ∧ ExcC K D ∧ PySem.W.kitOne K (.ref D) cv = some b ∧ Q (.bl b) H
theorem call_isX {X : Cx} {a : Addr} {cls : Value} {dd : Option Addr} {oe : Obj} {pn : List (Addr × Obj)} (hz : Zc cls dd oe) (hf : ∃ vs, oe.data = .fields vs) : CallR (X.suite a ((a, oe) :: pn)) (.builtin "isinstance") (rIsX X.K a cls dd) := by
  intro pins s σ H xs us Q I r h
  obtain ⟨c, cv, D, x, fs, b, rfl, hcv, rfl, rfl, hx, T, e, q⟩ := h
  obtain ⟨u1, u2, rfl, r1, r2⟩ := vals2 r
  obtain rfl : u1 = Value.ref a := r1
  obtain rfl := hcv _ r2
  obtain ⟨hget, _⟩ := I.pin (a, oe) (List.mem_append.mpr (.inl List.mem_cons_self))
  obtain ⟨vs, hv⟩ := hf
  have hxo : ObjOk X.prog X.w H s.heap x (.xd fs) := I.hok x _ hx
  obtain ⟨mA, hns, _⟩ := hxo
  obtain ⟨od, ho, _⟩ := lookIn_ns hns
  have J : PySem.W.InstAt s.heap a oe D (some od) := ⟨hget, hz.1, by unfold PySem.W.notCls; rw [hv] <;> rfl, by rw [hz.2]; exact ho⟩
  exact PySem.W.kia_one (kitx_err T) I.kIn J e (fun z => nomatch z) fun tk => ⟨.bl b, H, I.kept (t' := tk) fun _ _ z => z, rfl, q⟩

/-! ### expressions of an except suite -/
abbrev DX := Addr → D → DE
def tX (K : PySem.W.Frag) (i : Nat) (a : Addr) (cls : Value) (dd : Option Addr) (den : DX) : TE := fun σ H Q => ∃ m B ρ S C x va de, RS K m B H S ∧ REs K m B H ρ σ ∧ σ[i]? = some (some (.ref a)) ∧ cls = .ref C ∧ dd = some x ∧ H x = some (.xd [("at", va)]) ∧ RD K m B H de va ∧
  Post K m B H (fun _ _ _ => False) (fun d _ m' H' => ∀ v, RD K m' B H' d v → Q v H') (den C de ρ S)
def tXA (K : PySem.W.Frag) (i : Nat) (a : Addr) (cls : Value) (dd : Option Addr) (den : Addr → D → DA) : TA := fun σ H Q => ∃ m B ρ S C x va de, RS K m B H S ∧ REs K m B H ρ σ ∧ σ[i]? = some (some (.ref a)) ∧ cls = .ref C ∧ dd = some x ∧ H x = some (.xd [("at", va)]) ∧ RD K m B H de va ∧
  Post K m B H (fun _ _ _ => False) (fun ds _ m' H' => ∀ vs, RDs K m' B H' ds vs → Q vs H') (den C de ρ S)
def ZX (X : Cx) (i : Nat) (e : Expr) (den : DX) : Prop := ∀ (a : Addr) (oe : Obj) (cls : Value) (dd : Option Addr) (pn : List (Addr × Obj)), Zc cls dd oe → (∃ vs, oe.data = .fields vs) → PE (X.suite a ((a, oe) :: pn)) e (tX X.K i a cls dd den)
def ZXA (X : Cx) (i : Nat) (es : List Expr) (den : Addr → D → DA) : Prop := ∀ (a : Addr) (oe : Obj) (cls : Value) (dd : Option Addr) (pn : List (Addr × Obj)), Zc cls dd oe → (∃ vs, oe.data = .fields vs) → PA (X.suite a ((a, oe) :: pn)) es (tXA X.K i a cls dd den)
theorem xd_stays {K : PySem.W.Frag} {m m' B : List Addr} {H H' : Hp} {S : Sto} {x : Addr} {fs : List (Str × V)} (rs : RS K m B H S) (h : H x = some (.xd fs)) (g : Ge m H m' H') : H' x = some (.xd fs) := by
  refine (g.keep x _ (fun hm => ?_) h).2
  obtain ⟨n, hn⟩ := List.mem_iff_getElem?.mp hm
  have hl : n < S.length := by rw [← rs.len]; exact (List.getElem?_eq_some_iff.mp hn).1
  have q := rs.ob n x S[n] hn (by simp [hl])
  cases ho : S[n] with
  | lst ds => rw [ho] at q; obtain ⟨vs, e, _⟩ := q; rw [h] at e; cases e
  | ins C fs => rw [ho] at q; obtain ⟨dx, vs, e, _⟩ := q; rw [h] at e; cases e
  | dct kvs => rw [ho] at q; obtain ⟨vs, e, _⟩ := q; rw [h] at e; cases e
  | dcT kvs => rw [ho] at q; obtain ⟨vs, e, _⟩ := q; rw [h] at e; cases e
  | iset p n => rw [ho] at q; have e : _ = _ := q; rw [h] at e; cases e
section
variable {X : Cx} {i : Nat} {e c b : Expr} {es : List Expr} {den dc db : DX} {da : Addr → D → DA} {pos p1 p0 : Pos} {n : Str}
theorem tX.take {β : Type} {K : PySem.W.Frag} {a : Addr} {cls : Value} {dd : Option Addr} {d0 : DX} {f : D → Sto → R β} {σ : L2.St} {H : Hp} {Q' : VK} {m B : List Addr} {ρ : Env} {S : Sto} {C x : Addr} {va : V} {de : D} {P : β → Sto → List Addr → Hp → Prop} (r : RS K m B H S) (e : REs K m B H ρ σ)
    (h1 : σ[i]? = some (some (.ref a))) (h2 : cls = .ref C) (h3 : dd = some x) (h4 : H x = some (.xd [("at", va)])) (h5 : RD K m B H de va) (h : Post K m B H (fun _ _ _ => False) P ((d0 C de ρ S).bind f))
    (k : ∀ d S1 m1 H1 v, Ge m H m1 H1 → RS K m1 B H1 S1 → REs K m1 B H1 ρ σ → RD K m1 B H1 d v → H1 x = some (.xd [("at", va)]) → RD K m1 B H1 de va → Post K m1 B H1 (fun _ _ _ => False) P (f d S1) → Q' v H1) : tX K i a cls dd d0 σ H Q' :=
  ⟨m, B, ρ, S, C, x, va, de, r, e, h1, h2, h3, h4, h5, (Post.bind h).imp fun d S1 m1 H1 g1 r1 p v rv => k d S1 m1 H1 v g1 r1 (e.mono g1.tr) rv (xd_stays r h4 g1) (h5.mono g1.tr) p⟩
theorem tXA.take {β : Type} {K : PySem.W.Frag} {a : Addr} {cls : Value} {dd : Option Addr} {d0 : Addr → D → DA} {f : List D → Sto → R β} {σ : L2.St} {H : Hp} {Q' : List V → Hp → Prop} {m B : List Addr} {ρ : Env} {S : Sto} {C x : Addr} {va : V} {de : D} {P : β → Sto → List Addr → Hp → Prop} (r : RS K m B H S) (e : REs K m B H ρ σ)
    (h1 : σ[i]? = some (some (.ref a))) (h2 : cls = .ref C) (h3 : dd = some x) (h4 : H x = some (.xd [("at", va)])) (h5 : RD K m B H de va) (h : Post K m B H (fun _ _ _ => False) P ((d0 C de ρ S).bind f))
    (k : ∀ d S1 m1 H1 v, Ge m H m1 H1 → RS K m1 B H1 S1 → REs K m1 B H1 ρ σ → RDs K m1 B H1 d v → H1 x = some (.xd [("at", va)]) → RD K m1 B H1 de va → Post K m1 B H1 (fun _ _ _ => False) P (f d S1) → Q' v H1) : tXA K i a cls dd d0 σ H Q' :=
  ⟨m, B, ρ, S, C, x, va, de, r, e, h1, h2, h3, h4, h5, (Post.bind h).imp fun d S1 m1 H1 g1 r1 p v rv => k d S1 m1 H1 v g1 r1 (e.mono g1.tr) rv (xd_stays r h4 g1) (h5.mono g1.tr) p⟩
/-- what does not touch the error -/
theorem zx_lift {d0 : DE} (h : ∀ (a : Addr) (pn : List (Addr × Obj)), ZE (X.suite a pn) e d0) : ZX X i e fun _ _ => d0 := fun a oe cls dd pn hz hf => pe_weak (h a _ WF takes0) fun σ H Q ⟨m, B, ρ, S, C, x, va, de, rs, ee, h1, h2, h3, h4, h5, p⟩ => ⟨m, B, ρ, S, rs, ee, p⟩
def xAt (cs : List Addr) : DX := fun C d _ S => if C ∈ cs then .ok d S else .bad
def xIs (f : Addr → Option Bool) : DX := fun C _ _ S => match f C with
  | some k => .ok (.bl k) S
  | none => .bad
theorem pe_err {a : Addr} {oe : Obj} {pn : List (Addr × Obj)} (hi : X.N[i]? = some n) (hv : Vis X.env.scope n) (hd : (n == ("__debug__" : Str)) = false) (hcd : (n == ("__classdict__" : Str)) = false) :
    PE (X.suite a ((a, oe) :: pn)) (.Name n p0) (fun σ H Q => σ[i]? = some (some (.ref a)) ∧ Q (.ref a) H) := pe_weak (pe_var (X := X.suite a ((a, oe) :: pn)) (i := i) hi hv hd hcd) fun σ H Q ⟨h, q⟩ => ⟨_, h, q⟩
/-- e.at -/
theorem zx_at {cs : List Addr} (hc : ∀ C ∈ cs, XfC X.K C ∧ PySem.W.findIn X.K (.ref C) "at" = some none) (hi : X.N[i]? = some n := by rfl) (hv : Vis X.env.scope n := by first | exact Or.inl rfl | exact Or.inr (Or.inl rfl) | exact Or.inr (Or.inr rfl)) (hd : (n == ("__debug__" : Str)) = false := by decide) (hcd : (n == ("__classdict__" : Str)) = false := by decide)
    (hb : attributeBase (.Name n p0) "at" X.env (eval (.Name n p0) X.env) = eval (.Name n p0) X.env := by rfl) : ZX X i (.Attribute (.Name n p0) "at" pos) (xAt cs) := fun a oe cls dd pn hz hf => ⟨fun pins s σ H Q I ⟨m, B, ρ, S, C, x, va, de, rs, ee, h1, h2, h3, h4, h5, p⟩ => by
  unfold xAt at p
  split at p
  · rename_i hC
    refine (pe_xf (hc C hC).1 (hc C hC).2 hz hf (pe_err (i := i) hi hv hd hcd) hb).run pins s σ H Q I ?_
    exact ⟨h1, rfl, h2, x, _, va, h3, h4, by simp [List.lookup], p.now rs va h5⟩
  · exact p.elim⟩
theorem zxa_nil : ZXA X i [] fun _ _ => aN := fun a oe cls dd pn hz hf => pa_weak pa_nil fun σ H Q ⟨m, B, ρ, S, C, x, va, de, rs, ee, h1, h2, h3, h4, h5, p⟩ => p.now rs [] RDs.nil
theorem zxa_cons (ha : ZX X i e den) (hr : ZXA X i es da) (hs : starEach (e :: es) X.env = (false, eval e X.env) :: starEach es X.env := by rfl) : ZXA X i (e :: es) fun C d => aC (den C d) (da C d) := fun a oe cls dd pn hz hf => pa_weak (pa_cons (ha a oe cls dd pn hz hf) (hr a oe cls dd pn hz hf) hs) fun σ H Q ⟨m, B, ρ, S, C, x, va, de, rs, ee, h1, h2, h3, h4, h5, p⟩ =>
  tX.take (f := fun d S1 => (da C de ρ S1).bind fun ds S2 => .ok (d :: ds) S2) rs ee h1 h2 h3 h4 h5 p fun d S1 m1 H1 v g1 r1 e1 rd x1 rd1 p1 => tXA.take r1 e1 h1 h2 h3 x1 rd1 p1 fun ds S2 m2 H2 vs g2 r2 e2 rds x2 rd2 p2 => p2.now r2 (v :: vs) (RDs.cons (rd.mono g2.tr) rds)
theorem zx_tup {k x1 : Nat} (h : ZXA X i es da) (hl : ∀ C d, LenA k (da C d)) (hn : k ≤ 1000 := by decide) : ZX X i (.Tuple es x1 pos) fun C d => eTup (da C d) := fun a oe cls dd pn hz hf => pe_weak (pe_tup (h a oe cls dd pn hz hf)) fun σ H Q ⟨m, B, ρ, S, C, x, va, de, rs, ee, h1, h2, h3, h4, h5, p⟩ => by
  have hl := hl C de ρ S
  have p : Post X.K m B H (fun _ _ _ => False) (fun d _ m' H' => ∀ v, RD X.K m' B H' d v → Q v H') ((da C de ρ S).bind fun ds S1 => .ok (.tup ds) S1) := p
  refine ⟨m, B, ρ, S, C, x, va, de, rs, ee, h1, h2, h3, h4, h5, ?_⟩
  cases hr : da C de ρ S with
  | ok ds S1 =>
    rw [hr] at p hl
    refine fun m1 H1 g1 r1 vs rv => ⟨?_, fun q hq => ?_⟩
    · rw [← rv.len, hl, sizeLine_eq]
      omega
    · obtain ⟨g2, r2⟩ := r1.new (u := .tup vs) hq
      refine (show Post X.K m B H _ _ (R.ok (D.tup ds) S1) from p) m1 _ (g1.trans g2) r2 _ ?_
      unfold RD
      exact ⟨q, vs, rfl, .inl ⟨r1.notin hq, r1.notB hq, .inl upd_same⟩, RDs.mono g2.tr _ _ rv⟩
  | exc c d S1 => rw [hr] at p; exact fun m' H' x v g r hx rv => p m' H' x v g r hx rv
  | bad => rw [hr] at p; exact p
/-- isinstance(e, E) -/
theorem zx_is {f : Addr → Option Bool} {y : Str} {E : Addr} {p2 : Pos} (hf' : ∀ C b, f C = some b → ExcC X.K C ∧ PySem.W.kitOne X.K (.ref C) (.ref E) = some b) (hm : X.mg "isinstance" = none) (hE : X.mg y = some (.ref E)) (hi : X.N[i]? = some n := by rfl) (hv : Vis X.env.scope n := by first | exact Or.inl rfl | exact Or.inr (Or.inl rfl) | exact Or.inr (Or.inr rfl)) (hd : (n == ("__debug__" : Str)) = false := by decide) (hcd : (n == ("__classdict__" : Str)) = false := by decide)
    (hg : Gl X "isinstance" := by rfl) (hgE : Gl X y := by rfl) (hdE : (y == ("__debug__" : Str)) = false := by decide) (he : starEach [.Name n p0, .Name y p1] X.env = (false, eval (.Name n p0) X.env) :: starEach [.Name y p1] X.env := by rfl) (he2 : starEach [.Name y p1] X.env = (false, eval (.Name y p1) X.env) :: starEach [] X.env := by rfl) (hpl : (backTo pos (starEach [.Name y p1] X.env)).any (·.1) = false := by rfl) :
    ZX X i (.Call (.Name "isinstance" p2) [.Name n p0, .Name y p1] [] pos) (xIs f) := fun a oe cls dd pn hz hf => ⟨fun pins s σ H Q I ⟨m, B, ρ, S, C, x, va, de, rs, ee, h1, h2, h3, h4, h5, p⟩ => by
  have hgs : Gl (X.suite a ((a, oe) :: pn)) "isinstance" := hg
  unfold xIs at p
  split at p
  · rename_i k hk
    refine (pe_callB (X := X.suite a ((a, oe) :: pn)) (call_isX hz hf) hgs hm (show bootBuiltins "isinstance" = some (.builtin "isinstance") by decide +kernel) (pa_cons (pe_err (i := i) hi hv hd hcd) (pa_cons (pe_glob (X := X.suite a ((a, oe) :: pn)) (v := .ref E) hgE hE rfl hdE) pa_nil he2) he) (by decide) (by decide) he hpl).run pins s σ H Q I ?_
    exact ⟨h1, .ref E, .ref E, C, x, _, k, rfl, fun u ru => ru, h2, h3, h4, (hf' C k hk).1, (hf' C k hk).2, p.now rs _ (RDb _)⟩
  · exact p.elim⟩
/-- a if c else b -/
def xIf (c a b : DX) : DX := fun C d ρ S => (c C d ρ S).bind fun k S1 => match tru S1 k with
  | some true => a C d ρ S1
  | some false => b C d ρ S1
  | none => .bad
theorem zx_ifx (hc : ZX X i c dc) (ha : ZX X i e den) (hb : ZX X i b db) (he : ∀ whole, isTrue c X.env whole = (do let v ← whole; standAt c.pos; holding [v] (truthy v)) := by intro _; rfl) : ZX X i (.IfExp c e b pos) (xIf dc den db) := fun a oe cls dd pn hz hf =>
  pe_weak (pe_ifExp (pt_truth (X := X.suite a ((a, oe) :: pn)) (hc a oe cls dd pn hz hf) he) (ha a oe cls dd pn hz hf) (hb a oe cls dd pn hz hf)) fun σ H Q ⟨m, B, ρ, S, C, x, va, de, rs, ee, h1, h2, h3, h4, h5, p⟩ =>
    tX.take (f := fun k S1 => match tru S1 k with
      | some true => den C de ρ S1
      | some false => db C de ρ S1
      | none => .bad) rs ee h1 h2 h3 h4 h5 p fun d S1 m1 H1 v g1 r1 e1 rd x1 rd1 p1 => by
      cases h : tru S1 d with
      | none => simp only [h] at p1; exact p1.elim
      | some b =>
        simp only [h] at p1
        refine ⟨b, tru_is r1 rd h, ?_⟩
        cases b with
        | true => exact ⟨m1, B, ρ, S1, C, x, va, de, r1, e1, h1, h2, h3, x1, rd1, p1⟩
        | false => exact ⟨m1, B, ρ, S1, C, x, va, de, r1, e1, h1, h2, h3, x1, rd1, p1⟩
end

/-! ### try: .. except E as e: return .. -/
/-- mt: is the error's class one that is caught; i: e's slot; su: what is returned -/
def sTry (mt : Addr → Option Bool) (i : Nat) (db : DS) (su : DX) : DS := fun ρ S => match db ρ S with
  | .exc ρ' C d S' => match mt C with
    | some true => if i < ρ'.length then (su C d (ρ'.set i none) S').safe.to ρ' fun v S2 => .rt v S2 else .bad
    | some false => .exc ρ' C d S'
    | none => .bad
  | r => r
theorem REs.setX {K : PySem.W.Frag} {m B : List Addr} {H : Hp} : ∀ {ρ : Env} {σ : L2.St} (i : Nat) (x : Option V), REs K m B H ρ σ → REs K m B H (ρ.set i none) (σ.set i x)
  | [], _, _, _, h => by
    have h' : _ = _ := h
    rw [h']
    rfl
  | o :: ρ, σ, 0, y, ⟨x, r, e, h1, h2⟩ => by
    subst e
    exact ⟨y, r, rfl, fun d' q => (nomatch q), h2⟩
  | o :: ρ, σ, i + 1, y, ⟨x, r, e, h1, h2⟩ => by
    subst e
    exact ⟨x, _, rfl, h1, REs.setX i y h2⟩
def tSu (K : PySem.W.Frag) (i : Nat) (su : DX) (a : Addr) (cls : Value) (d : Option Addr) : TS := fun D σ H => tX K i a cls d su σ H fun v H' => D.rt v H'
section
variable {X : Cx} {i : Nat} {x n : Str} {c : Addr} {body : List Stmt} {re : Expr} {np pos pos' rp : Pos} {db : DS} {su : DX} {mt : Addr → Option Bool}
theorem zs_try (hst : X.stack = X.env :: X.outer) (hfr : X.env.frame = some X.env.locals) (hN : X.N.Nodup) (hm : X.mg x = some (.ref c)) (hmt : ∀ C b, mt C = some b → PySem.W.exmOne X.K (.ref C) (.ref c) = some b)
    (hb : ∀ (pn : List (Addr × Obj)) (xe : Value → Shared → Prop), PassesOwn (model X.prog X.w) X.A X.env xe → ZB (X.tr pn xe) body db) (hs : ZX X i re su) (hi : X.N[i]? = some n := by rfl) (hln : X.env.kindOf n = some .local := by rfl) (hg : Gl X x := by rfl) (hdb : (x == ("__debug__" : Str)) = false := by decide) :
    ZS X (.Try body [.ExceptHandler (some (.Name x np)) (some n) [.Return (some re) rp] pos'] [] [] pos) (sTry mt i db su) := fun W tk =>
  ps_weak (ps_try_as (tb := fun W => tS W X.K db) (ts := tSu X.K i su) (Wout := W) hst hfr hN hi hln ⟨hg, hdb, .inl hm⟩ tk (fun W' pn xe tk' hp => hb pn xe hp W' tk') fun a oe cls d pn hz hf => pss_one (ps_weak (ps_ret (hs a oe cls d pn hz hf)) fun E σ H h => h)) fun E σ H ⟨m, B, ρ, S, rs, e, p⟩ => by
    unfold sTry at p
    refine ⟨m, B, ρ, S, rs, e, ?_⟩
    cases hd : db ρ S with
    | nx ρ' S' => rw [hd] at p; exact p
    | rt d S' => rw [hd] at p; exact p
    | bk ρ' S' => rw [hd] at p; exact p
    | ct ρ' S' => rw [hd] at p; exact p
    | bad => rw [hd] at p; exact p
    | exc ρ' C d S' =>
      rw [hd] at p
      simp only at p
      intro m1 H1 σ1 xd v g1 r1 e1 hx rv
      cases hmC : mt C with
      | none => rw [hmC] at p; exact p.elim
      | some b =>
        rw [hmC] at p
        refine ⟨b, hmt C b hmC, fun hb' a ha => ?_, fun hb' => ?_⟩
        · subst hb'
          simp only at p
          split at p
          case isFalse => exact p.elim
          rename_i hlt
          have hσ : i < σ1.length := by rw [← e1.len]; exact hlt
          refine ⟨m1, B, ρ'.set i none, S', C, xd, v, d, r1, REs.setX i _ e1, by simp [hσ], rfl, rfl, hx, rv, ?_⟩
          cases hsu : su C d (ρ'.set i none) S' with
          | ok w S2 => rw [hsu] at p; exact fun m2 H2 g2 r2 v2 rv2 => p m2 H2 v2 (g1.trans g2) r2 rv2
          | exc _ _ _ => rw [hsu] at p; exact (show False from p).elim
          | bad => rw [hsu] at p; exact p
        · subst hb'
          exact p m1 H1 σ1 xd v g1 r1 e1 hx rv
end
end Z
namespace Z
open PySem PySem.W PySem.Calls PyProof.Rows L2 He

/-! ### facts by checks -/
theorem band {a b : Bool} (h : (a && b) = true) : a = true ∧ b = true := Bool.and_eq_true_iff.mp h
def nnB : Value → Value → Bool
  | .none, .none => true
  | _, _ => false
theorem nnB_ok {a b : Value} (h : nnB a b = true) : a = .none ∧ b = .none := by
  cases a <;> cases b <;> first | exact ⟨rfl, rfl⟩ | cases h
def strB (file : Str) : Option Value → Bool
  | some (.str fs _) => file == fs
  | _ => false
theorem strB_ok {file : Str} {o : Option Value} (h : strB file o = true) : ∃ fs tf, o = some (.str fs tf) ∧ (file == fs) = true := by
  cases o with
  | none => cases h
  | some v => cases v <;> first | exact ⟨_, _, rfl, h⟩ | cases h
def vsB (file : Str) : Option Obj → Bool
  | some ⟨_, _, .fields vs, _⟩ => strB file (vs[2]? : Option Value)
  | _ => false
theorem vsB_ok {file : Str} {o : Option Obj} (h : vsB file o = true) : ∃ a b vs c, o = some ⟨a, b, .fields vs, c⟩ ∧ strB file (vs[2]? : Option Value) = true := by
  cases o with
  | none => cases h
  | some o =>
    obtain ⟨a, b, dt, c⟩ := o
    cases dt <;> first | exact ⟨_, _, _, _, rfl, h⟩ | cases h
def codB (K : Frag) (file : Str) : Value → Bool
  | .ref cda => vsB file (K.lookup cda)
  | _ => false
theorem codB_ok {K : Frag} {file : Str} {v : Value} (h : codB K file v = true) : ∃ cda, v = .ref cda ∧ vsB file (K.lookup cda) = true := by
  cases v <;> first | exact ⟨_, rfl, h⟩ | cases h
def celB (D : Addr) : Option Obj → Bool
  | some ⟨_, _, .cell (some (.ref E)), _⟩ => decide (E = D)
  | _ => false
theorem celB_ok {D : Addr} {o : Option Obj} (h : celB D o = true) : ∃ a b c, o = some ⟨a, b, .cell (some (.ref D)), c⟩ := by
  cases o with
  | none => cases h
  | some o =>
    obtain ⟨a, b, dt, c⟩ := o
    cases dt <;> try (cases h; done)
    rename_i v
    cases v with
    | none => cases h
    | some v =>
      cases v <;> try (cases h; done)
      rename_i E
      have e : E = D := of_decide_eq_true h
      subst e
      exact ⟨_, _, _, rfl⟩
def cloB (K : Frag) (D : Addr) : List (Str × Addr) → Bool
  | [p] => celB D (K.lookup p.2)
  | _ => false
/-- an own error's class: its __init__ as the text has it -/
def errB (K : Frag) (prog : Program) (x : Str) : Bool :=
  (match K.lookup (ga K x) with
    | some ⟨.type t, _, .cls cd, sl⟩ => decide (t = "type") && (cd.hasDict && (!cd.hasDel && ((match cd.mro with
      | .ref c :: bm => decide (c = ga K x) && (PySem.HandSPX.refsVE bm && (match alongIn K "__init__" bm with
        | some (some (.builtin b)) => decide (b = "ValueError.__init__")
        | _ => false))
      | _ => false) && (match sl with
      | ⟨[_, _, _, _, some (.builtin b), _]⟩ => decide (b = "ValueError.__new__")
      | _ => false))))
    | _ => false) &&
  ((Fa.noat x "at").ok K && (eqO (findIn K (.ref (ga K x)) "__setattr__") (some (some (.builtin "object.__setattr__"))) && (decide (subIn K (.ref (ga K x)) (.type "BaseException") = some true) && (decide (typeIn K (.ref (ga K x)) = some (.type "type")) &&
  (keepIn K (.ref (ga K x)) && (eqO (nsIn K cStatics "thirdparty.any") (some none) && (!(prog.main.scope.names.lookup ("super" : Str)).isSome &&
  (eqO (findIn K (.ref (ga K x)) "__init__") (some (some (.ref (ma K (ga K x) "__init__")))) && (decide (typeIn K (.ref (ma K (ga K x) "__init__")) = some (.type "function")) &&
  (match K.lookup (ma K (ga K x) "__init__") with
    | some ⟨_, _, .func fd, _⟩ => nnB fd.defaults fd.kwdefaults && (codeIn K fd.code fd.qualname && (codB K prog.main.file fd.code && cloB K (ga K x) fd.closure))
    | _ => false))))))))))
theorem errB_ok {K : Frag} {prog : Program} {x : Str} {qual : Str} {p0 p1 p2 p3 p4 p5 q1 q2 q3 q4 r1 r2 : Pos} (h : errB K prog x = true) (hc : EiCall p0 p1 p2 p3 p4)
    (e : ∃ cc, fnW K (x, some "__init__") = some ((("__init__" : Str), qual, eiArgs r1 r2, FuncBody.stmts (eiBody p0 p1 p2 p3 p4 p5 q1 q2 q3 q4), eiScope, mainGlobals, [(("__class__" : Str), cc)], builtinsNs) : Str × Str × Arguments × FuncBody × Scope × Addr × List (Str × Addr) × Addr)) : ErrC K prog (ga K x) := by
  obtain ⟨a1, h⟩ := band h
  obtain ⟨a2, h⟩ := band h
  obtain ⟨a3, h⟩ := band h
  obtain ⟨a4, h⟩ := band h
  obtain ⟨a5, h⟩ := band h
  obtain ⟨a6, h⟩ := band h
  obtain ⟨a7, h⟩ := band h
  obtain ⟨a8, h⟩ := band h
  obtain ⟨a9, h⟩ := band h
  obtain ⟨a10, a11⟩ := band h
  refine ⟨?_, eqO_ok a3, eqO_ok a2, of_decide_eq_true a4, of_decide_eq_true a5, a6, eqO_ok a7, by simpa using a8, ?_⟩
  · split at a1
    · rename_i t od cd sl hl
      obtain ⟨b1, a1⟩ := band a1
      obtain ⟨b2, a1⟩ := band a1
      obtain ⟨b3, a1⟩ := band a1
      obtain ⟨b4, b5⟩ := band a1
      obtain ⟨nm, bs, mro, ns, qn, hd, sn, sb, ab, col, hdel⟩ := cd
      simp only at b2 b3 b4
      split at b4
      · rename_i c bm
        obtain ⟨c1, b4⟩ := band b4
        obtain ⟨c2, c3⟩ := band b4
        split at c3
        · rename_i b hb
          split at b5
          · rename_i k0 k1 k2 k3 b' k5
            have e1 := of_decide_eq_true b1
            have e2 := of_decide_eq_true c1
            have e3 := of_decide_eq_true c3
            have e4 := of_decide_eq_true b5
            have e5 : hdel = false := by cases hdel <;> simp_all
            subst e1 e3 e4 e5 b2 e2
            exact ⟨_, _, _, _, _, _, _, _, _, _, _, _, _, _, _, hl, c2, hb⟩
          · cases b5
        · cases c3
      · cases b4
    · cases a1
  · obtain ⟨cc, e⟩ := e
    have eA : fAd K (x, some "__init__") = ma K (ga K x) "__init__" := rfl
    unfold fnW at e
    rw [eA] at e
    split at a11
    · rename_i oc od fd osl hl
      obtain ⟨b1, a11⟩ := band a11
      obtain ⟨b2, a11⟩ := band a11
      obtain ⟨b3, b4⟩ := band a11
      rw [hl] at e
      obtain ⟨n1, n2, n3, n4, n5, n6, n7, n8, n9, n10, n11, n12, n13, n14, n15⟩ := fd
      simp only [Option.some.injEq, Prod.mk.injEq] at e
      obtain ⟨h1, h2, h3, h4, h5, h6, h7, h8⟩ := e
      subst h1 h2 h3 h4 h5 h6 h7 h8
      obtain ⟨e8, e9⟩ := nnB_ok b1
      have e8 : n8 = .none := e8
      have e9 : n9 = .none := e9
      obtain ⟨cda, e13, b3⟩ := codB_ok b3
      have e13 : n13 = .ref cda := e13
      subst e8 e9 e13
      obtain ⟨ccl, cdd, vs, ccs, hcl, b3⟩ := vsB_ok b3
      obtain ⟨fs, tf, hvs, b3⟩ := strB_ok b3
      obtain ⟨cl, cld, csl, hcell⟩ := celB_ok (show celB (ga K x) (K.lookup cc) = true from b4)
      exact ⟨_, cc, cda, _, p0, p1, p2, p3, p4, p5, q1, q2, q3, q4, r1, r2, _, _, _, _, _, _, _, _, _, _, _, _, _, vs, fs, tf, eqO_ok a9, of_decide_eq_true a10, hl, b2, hcl, hvs, b3, hc, hcell⟩
    · cases a11
/-- what isinstance needs of an error's class -/
def excCB (K : Frag) (x : Str) : Bool := eqO (findIn K (.ref (ga K x)) "__getattribute__") (some (some (.builtin "BaseException.__getattribute__"))) && (eqO (findIn K (.ref (ga K x)) "__getattr__") (some none) && (decide (subIn K (.ref (ga K x)) (.type "BaseException") = some true) && (hasDictIn K (ga K x) &&
  (eqO (findIn K (.ref (ga K x)) "__class__") (some (some (.builtin "object.__class__"))) && (decide (specialIn K (.builtin "object.__class__") "__get__" = some (some (.builtin "getset_descriptor.__get__"))) && (decide (takesIn K (.builtin "object.__class__") = some true) && decide (mroIn K (ga K x) (.type "object") = some true)))))))
theorem excCB_ok {K : Frag} {x : Str} (h : excCB K x = true) : ExcC K (ga K x) := by
  obtain ⟨a1, h⟩ := band h
  obtain ⟨a2, h⟩ := band h
  obtain ⟨a3, h⟩ := band h
  obtain ⟨a4, h⟩ := band h
  obtain ⟨a5, h⟩ := band h
  obtain ⟨a6, h⟩ := band h
  obtain ⟨a7, a8⟩ := band h
  exact ⟨eqO_ok a1, eqO_ok a2, of_decide_eq_true a3, a4, eqO_ok a5, of_decide_eq_true a6, of_decide_eq_true a7, of_decide_eq_true a8⟩
/-- the own classes at cs, for isinstance -/
def kitB (K : Frag) (xs : List Str) : Bool :=
  xs.all (fun x => (Fa.cls x).ok K && (eqO (findIn K (.ref (ga K x)) "__class__") (some (some (.builtin "object.__class__"))) && (decide (mroIn K (ga K x) (.type "object") = some true) &&
    (tNames.all (fun T => decide (kitOne K (.ref (ga K x)) (.type T) = some false) && decide (kitOne K (.type T) (.ref (ga K x)) = some false)) && xs.all (fun y => decide (kitOne K (.ref (ga K x)) (.ref (ga K y)) = some (decide (ga K x = ga K y)))))))) &&
  (decide (specialIn K (.builtin "object.__class__") "__get__" = some (some (.builtin "getset_descriptor.__get__"))) && decide (takesIn K (.builtin "object.__class__") = some true))
theorem kitB_ok {K : Frag} {xs : List Str} (h : kitB K xs = true) : Kit K (xs.map (ga K)) := by
  obtain ⟨h, a2⟩ := band h
  obtain ⟨a2, a3⟩ := band a2
  have h := List.all_eq_true.mp h
  have key : ∀ c ∈ xs.map (ga K), ∃ x ∈ xs, c = ga K x := fun c hc => by
    obtain ⟨x, hx, e⟩ := List.mem_map.mp hc
    exact ⟨x, hx, e.symm⟩
  refine ⟨fun c hc => ?_, fun c hc => ?_, of_decide_eq_true a2, of_decide_eq_true a3, fun c hc => ?_, fun c hc T hT => ?_, fun c hc T hT => ?_, fun c hc D hD => ?_⟩
  all_goals
    obtain ⟨x, hx, rfl⟩ := key _ hc
    obtain ⟨b1, b⟩ := band (h x hx)
    obtain ⟨b2, b⟩ := band b
    obtain ⟨b3, b⟩ := band b
    obtain ⟨b4, b5⟩ := band b
  · exact cls_ok b1
  · exact eqO_ok b2
  · exact of_decide_eq_true b3
  · exact of_decide_eq_true (band (List.all_eq_true.mp b4 T hT)).1
  · exact of_decide_eq_true (band (List.all_eq_true.mp b4 T hT)).2
  · obtain ⟨y, hy, rfl⟩ := key _ hD
    exact of_decide_eq_true (List.all_eq_true.mp b5 y hy)
/-- a name that is no attribute of the classes -/
def noAttB (K : Frag) (xs : List Str) (f : Str) : Bool := xs.all fun x => (Fa.cls x).ok K && (Fa.noat x f).ok K
theorem noAttB_ok {K : Frag} {xs : List Str} {f : Str} (h : noAttB K xs f = true) : NoAtt K (xs.map (ga K)) f := fun c hc => by
  obtain ⟨x, hx, rfl⟩ := List.mem_map.mp hc
  obtain ⟨b1, b2⟩ := band (List.all_eq_true.mp h x hx)
  exact ⟨cls_ok b1, noat_ok b2⟩
def kitOneB (K : Frag) (x y : Str) (b : Bool) : Bool := decide (kitOne K (.ref (ga K x)) (.ref (ga K y)) = some b)
theorem kitOneB_ok {K : Frag} {x y : Str} {b : Bool} (h : kitOneB K x y b = true) : kitOne K (.ref (ga K x)) (.ref (ga K y)) = some b := of_decide_eq_true h

/-! ### a def as the callers see it -/
/-- dl: its defaults -/
structure Df (P : Program) (w : World) (K : Frag) (mg : Str → Option Value) (base : Heap) (x : Str) (k n : Nat) (F : List D → Sto → R D) (dl : List D) : Prop where
  ex : ∃ (f : Addr) (fd : FuncData) (ps : List Str), FnOk P w K mg base (L2.CX P w) k f fd ps (spI K n F) ∧ mg x = some (.ref f) ∧ keepIn K (.ref f) = true ∧ ∀ j, j ≤ dl.length → ∃ ds dvs, Binds K fd ps ds ∧ Vals dvs ds ∧ ∀ m B H, RDs K m B H (dl.drop j) dvs
/-- a class that is called: its __init__ -/
structure Dk (P : Program) (w : World) (K : Frag) (mg : Str → Option Value) (base : Heap) (x : Str) (C : Addr) (k n : Nat) (F : List D → Sto → R D) (dl : List D) : Prop where
  ex : ∃ f, Mk K C f ∧ ∃ (fd : FuncData) (ps : List Str), FnOk P w K mg base (L2.CX P w) k f fd ps (spI K n F) ∧ ∀ j, j ≤ dl.length → ∃ ds dvs, Binds K fd ps ds ∧ Vals dvs ds ∧ ∀ m B H, RDs K m B H (dl.drop j) dvs
  mg : mg x = some (.ref C)
/-- a method -/
structure Dm (P : Program) (w : World) (K : Frag) (mg : Str → Option Value) (base : Heap) (C : Addr) (mt : Str) (k n : Nat) (F : List D → Sto → R D) (dl : List D) : Prop where
  cl : Cls K C
  ex : ∃ (f : Addr) (fd : FuncData) (ps : List Str), Meth K C mt f ∧ FnOk P w K mg base (L2.CX P w) k f fd ps (spI K n F) ∧ ∀ j, j ≤ dl.length → ∃ ds dvs, Binds K fd ps ds ∧ Vals dvs ds ∧ ∀ m B H, RDs K m B H (dl.drop j) dvs
section
variable {X : Cx} {x : Str} {k n : Nat} {F : List D → Sto → R D} {dl : List D} {pos p0 apos : Pos} {e o : Expr} {es : List Expr} {t : DA} {dobj : DE} {C : Addr}
theorem zd_call (G : Df X.prog X.w X.K X.mg X.base x k n F dl) (j : Nat) (hr : Room k X.A) (ha : ZA X (e :: es) t) (hj : j ≤ dl.length := by decide) (hg : Gl X x := by rfl) (hdb : (x == ("__debug__" : Str)) = false := by decide)
    (he : starEach (e :: es) X.env = (false, eval e X.env) :: starEach es X.env := by rfl) (hpl : (backTo pos (starEach es X.env)).any (·.1) = false := by rfl) : ZE X (.Call (.Name x p0) (e :: es) [] pos) (eFn n F (dl.drop j) t) := by
  obtain ⟨f, fd, ps, ok, hm, hk, hb⟩ := G.ex
  obtain ⟨ds, dvs, b1, b2, b3⟩ := hb j hj
  exact ze_call ⟨ok, hm, hk⟩ hr b1 b2 b3 ha hg hdb he hpl
theorem zd_call0 (G : Df X.prog X.w X.K X.mg X.base x k n F dl) (j : Nat) (hr : Room k X.A) (hj : j ≤ dl.length := by decide) (hg : Gl X x := by rfl) (hdb : (x == ("__debug__" : Str)) = false := by decide) : ZE X (.Call (.Name x p0) [] [] pos) (eFn n F (dl.drop j) aN) := by
  obtain ⟨f, fd, ps, ok, hm, hk, hb⟩ := G.ex
  obtain ⟨ds, dvs, b1, b2, b3⟩ := hb j hj
  exact ze_call0 ⟨ok, hm, hk⟩ hr b1 b2 b3 hg hdb
theorem zd_mk (G : Dk X.prog X.w X.K X.mg X.base x C k n F dl) (j : Nat) (hr : Room (k + 1) X.A) (ha : ZA X (e :: es) t) (hj : j ≤ dl.length := by decide) (hg : Gl X x := by rfl) (hdb : (x == ("__debug__" : Str)) = false := by decide)
    (he : starEach (e :: es) X.env = (false, eval e X.env) :: starEach es X.env := by rfl) (hpl : (backTo pos (starEach es X.env)).any (·.1) = false := by rfl) : ZE X (.Call (.Name x p0) (e :: es) [] pos) (eMk C n F (dl.drop j) t) := by
  obtain ⟨f, M, fd, ps, ok, hb⟩ := G.ex
  obtain ⟨ds, dvs, b1, b2, b3⟩ := hb j hj
  exact ze_mk M ok hr G.mg b1 b2 b3 ha hg hdb he hpl
theorem zd_mk0 (G : Dk X.prog X.w X.K X.mg X.base x C k n F dl) (j : Nat) (hr : Room (k + 1) X.A) (hj : j ≤ dl.length := by decide) (hg : Gl X x := by rfl) (hdb : (x == ("__debug__" : Str)) = false := by decide) : ZE X (.Call (.Name x p0) [] [] pos) (eMk C n F (dl.drop j) aN) := by
  obtain ⟨f, M, fd, ps, ok, hb⟩ := G.ex
  obtain ⟨ds, dvs, b1, b2, b3⟩ := hb j hj
  exact ze_mk0 M ok hr G.mg b1 b2 b3 hg hdb
theorem zd_meth {cs : List Addr} {mt : Str} {pl : Sem Bool} (G : Dm X.prog X.w X.K X.mg X.base C mt k n F dl) (j : Nat) (hr : Room k X.A) (ho : ZE X o dobj) (ha : ZA X (e :: es) t) (hj : j ≤ dl.length := by decide)
    (hst : starEach (e :: es) X.env = (false, eval e X.env) :: starEach es X.env := by rfl) (hpl : (backTo pos (starEach es X.env)).any (·.1) = false := by rfl)
    (ht : eval (.Call (.Attribute o mt apos) (e :: es) [] pos) X.env = (do
      let ov ← eval o X.env
      standAt apos.atName
      let (f, first) ← holding [ov] (getMethod ov mt pl)
      callWith pos f first (backTo pos (starEach (e :: es) X.env)) (backToKw pos (keywordEach [] X.env))) := by rfl) : ZE X (.Call (.Attribute o mt apos) (e :: es) [] pos) (eMt cs mt C n F (dl.drop j) dobj t) := by
  obtain ⟨f, fd, ps, hm, ok, hb⟩ := G.ex
  obtain ⟨ds, dvs, b1, b2, b3⟩ := hb j hj
  exact ze_meth (pl := pl) ho G.cl hm ok hr b1 b2 b3 ha hst hpl ht
theorem zd_meth0 {cs : List Addr} {mt : Str} {pl : Sem Bool} (G : Dm X.prog X.w X.K X.mg X.base C mt k n F dl) (j : Nat) (hr : Room k X.A) (ho : ZE X o dobj) (hj : j ≤ dl.length := by decide)
    (ht : eval (.Call (.Attribute o mt apos) [] [] pos) X.env = (do
      let ov ← eval o X.env
      standAt apos.atName
      let (f, first) ← holding [ov] (getMethod ov mt pl)
      callWith pos f first (backTo pos (starEach [] X.env)) (backToKw pos (keywordEach [] X.env))) := by rfl) : ZE X (.Call (.Attribute o mt apos) [] [] pos) (eMt cs mt C n F (dl.drop j) dobj aN) := by
  obtain ⟨f, fd, ps, hm, ok, hb⟩ := G.ex
  obtain ⟨ds, dvs, b1, b2, b3⟩ := hb j hj
  exact ze_meth0 (pl := pl) ho G.cl hm ok hr b1 b2 b3 ht
end
/-- no defaults -/
theorem binds_none {K : Frag} {x qual : Str} {params : Arguments} {body : List Stmt} {scope : Scope} {kws : List (Str × V)} {f : Addr} {fd : FuncData} {ps : List Str} (F : FunD K x qual params body scope [] kws f fd)
    (h : ∀ (kV doc pm : Value) (an : Option Addr) (cdv ct : Value) (us : List Value), us.length = ps.length → bindArgs (PySem.W.fnOf x qual params body scope .none kV doc pm an cdv ct) ⟨us, []⟩ = pure (ps.zip us)) :
    ∀ j, j ≤ ([] : List D).length → ∃ ds dvs, Binds K fd ps ds ∧ Vals dvs ds ∧ ∀ m B H, RDs K m B H (([] : List D).drop j) dvs := fun j _ => ⟨[], [], F.bindsN h, .nil, fun _ _ _ => by rw [List.drop_nil]; exact RDs.nil⟩
end Z
namespace Z
open PySem L2
theorem hu65 {k : Nat} {A : Around} (r : Room k A) : A.units + 65 < cLine := by
  have := r.un
  omega
theorem exB {l : List Bool} (e : l.all id = true) (i : Nat) {x : Bool} (h : l[i]? = some x) : x = true := List.all_eq_true.mp e x (List.mem_of_getElem? h)
/-- the class's cell that its __init__ holds -/
def cel (K : PySem.W.Frag) (x : Str) : Addr := match K.lookup (He.ma K (He.ga K x) "__init__") with
  | some ⟨_, _, .func fd, _⟩ => (match fd.closure with
    | [p] => p.2
    | _ => 0)
  | _ => 0
def He_xfB (K : PySem.W.Frag) (x : Str) : Bool := xfB K (He.ga K x)
theorem zb_bad {X : Cx} {sts : List Stmt} : ZB X sts fun _ _ => .bad := fun W tk => ⟨fun pins s σ H D I ⟨m, B, ρ, S, rs, e, p⟩ => p.elim⟩
def fNotB : D → D → Sto → R D
  | .bl a, .bl b, S => .ok (.bl (!decide (a = b))) S
  | _, _, _ => .bad
theorem okNotB {K : PySem.W.Frag} : OkOp K rNotB fNotB := by
  intro m B H S d e x y W Q rs rd re p
  cases d <;> try exact p.elim
  rename_i i
  cases e <;> try exact p.elim
  rename_i j
  unfold RD at rd re
  subst rd re
  exact ⟨i, j, rfl, rfl, p.now rs _ (RDb _)⟩
section
variable {X : Cx} {pos : Pos} {a b : Expr} {da db : DE}
theorem ze_notB (ha : ZE X a da) (hb : ZE X b db) : ZE X (.Compare a [.IsNot] [b] pos) (e2 fNotB da db) := ze_cmp op_notBl okNotB ha hb (nomark _)
theorem zt_notB (ha : ZE X a da) (hb : ZE X b db) : ZT X (.Compare a [.IsNot] [b] pos) (tVB (e2 fNotB da db)) := zt_cmp op_notBl okNotB ha hb (nomark _)
end
end Z
namespace Z
open PySem L2

/-! ### plain laws: what comprehensions, loops, places come to -/
theorem lcI_map {tg : Tg} {chk : Sto → Prop} {e : DE} {ρ0 : Env} {S : Sto} (g : D → D) (hc : chk S) : ∀ ds : List D, (∀ d ∈ ds, ∃ ρ1, Tg.asg S tg d ρ0 = some ρ1 ∧ e ρ1 S = .ok (g d) S) → lcI tg chk tYes e ρ0 ds S = .ok (ds.map g) S
  | [], _ => by simp [lcI]
  | d :: ds, h => by
    obtain ⟨ρ1, h1, h2⟩ := h d (List.mem_cons_self ..)
    have ih := lcI_map g hc ds fun d hd => h d (List.mem_cons_of_mem _ hd)
    simp [lcI, h1, tYes, h2, hc, ih]
theorem lcI_filter {tg : Tg} {chk : Sto → Prop} {t : DT} {e : DE} {ρ0 : Env} {S : Sto} (p : D → Bool) (g : D → D) (hc : chk S) : ∀ ds : List D, (∀ d ∈ ds, ∃ ρ1, Tg.asg S tg d ρ0 = some ρ1 ∧ t ρ1 S = .ok (p d) S ∧ (p d = true → e ρ1 S = .ok (g d) S)) → lcI tg chk t e ρ0 ds S = .ok ((ds.filter p).map g) S
  | [], _ => by simp [lcI]
  | d :: ds, h => by
    obtain ⟨ρ1, h1, h2, h3⟩ := h d (List.mem_cons_self ..)
    have ih := lcI_filter p g hc ds fun d hd => h d (List.mem_cons_of_mem _ hd)
    cases hp : p d with
    | true => simp [lcI, h1, h2, hp, h3 hp, hc, ih]
    | false => simp [lcI, h1, h2, hp, hc, ih]
theorem iRow_mem {lo : Int} {n : Nat} {d : D} (h : d ∈ iRow lo n) : ∃ i, i < n ∧ d = .int (lo + (i : Nat)) := by
  unfold iRow at h
  obtain ⟨i, hi, rfl⟩ := List.mem_map.mp h
  exact ⟨i, List.mem_range.mp hi, rfl⟩
def dI : D → Int
  | .int i => i
  | _ => 0
@[simp] theorem dI_int (i : Int) : dI (.int i) = i := rfl
theorem iRow_map (lo : Int) (n : Nat) (g : D → D) : (iRow lo n).map g = (List.range n).map fun i => g (.int (lo + (i : Nat))) := by simp [iRow, Function.comp_def]
/-- over a range -/
theorem lcI_range {j : Nat} {chk : Sto → Prop} {e : DE} {ρ0 : Env} {S : Sto} {n : Nat} {lo : Int} (g : Nat → D) (hc : chk S) (h : ∀ i, i < n → e (ρ0.set j (some (.int (lo + (i : Nat))))) S = .ok (g i) S) : lcI (.nm j) chk tYes e ρ0 (iRow lo n) S = .ok ((List.range n).map g) S := by
  rw [lcI_map (fun d => g (dI d - lo).toNat) hc (iRow lo n) fun d hd => ?_]
  · rw [iRow_map]
    congr 1
    apply List.map_congr_left
    intro i _
    simp only [dI_int]
    congr 1
    omega
  · obtain ⟨i, hi, rfl⟩ := iRow_mem hd
    refine ⟨_, rfl, ?_⟩
    rw [h i hi]
    simp only [dI_int]
    congr 2
    omega
theorem lc2I_flat {tg : Tg} {chk : Sto → Prop} {inn : DA} {ρ0 : Env} {S : Sto} (g : D → List D) (hc : chk S) : ∀ ds : List D, (∀ d ∈ ds, ∃ ρ1, Tg.asg S tg d ρ0 = some ρ1 ∧ inn ρ1 S = .ok (g d) S) → lc2I tg chk tYes inn ρ0 ds S = .ok (ds.flatMap g) S
  | [], _ => by simp [lc2I]
  | d :: ds, h => by
    obtain ⟨ρ1, h1, h2⟩ := h d (List.mem_cons_self ..)
    have ih := lc2I_flat g hc ds fun d hd => h d (List.mem_cons_of_mem _ hd)
    simp [lc2I, h1, tYes, h2, hc, ih]
/-- a loop whose turns keep P -/
theorem forI_inv {tg : Tg} {chk : Sto → Prop} {b : DS} (P : List D → Env → Sto → Prop) : ∀ (ds : List D) (ρ : Env) (S : Sto), P ds ρ S → (∀ d r ρ S, P (d :: r) ρ S → ∃ ρ1, Tg.asg S tg d ρ = some ρ1 ∧ ∃ ρ' S', (b ρ1 S = .nx ρ' S' ∨ b ρ1 S = .ct ρ' S') ∧ chk S' ∧ P r ρ' S') → ∃ ρ' S', forI tg b chk ds ρ S = .nx ρ' S' ∧ P [] ρ' S'
  | [], ρ, S, h, _ => ⟨ρ, S, rfl, h⟩
  | d :: ds, ρ, S, h, step => by
    obtain ⟨ρ1, h1, ρ', S', h2, h3, h4⟩ := step d ds ρ S h
    obtain ⟨ρ2, S2, h5, h6⟩ := forI_inv P ds ρ' S' h4 step
    refine ⟨ρ2, S2, ?_, h6⟩
    rcases h2 with h2 | h2 <;> simp [forI, h1, h2, h3, h5]
theorem forI_keep {tg : Tg} {chk : Sto → Prop} {b : DS} (P : Env → Sto → Prop) (ds : List D) (ρ : Env) (S : Sto) (h : P ρ S) (step : ∀ d ∈ ds, ∀ ρ S, P ρ S → ∃ ρ1, Tg.asg S tg d ρ = some ρ1 ∧ ∃ ρ' S', (b ρ1 S = .nx ρ' S' ∨ b ρ1 S = .ct ρ' S') ∧ chk S' ∧ P ρ' S') : ∃ ρ' S', forI tg b chk ds ρ S = .nx ρ' S' ∧ P ρ' S' := by
  obtain ⟨ρ', S', h1, h2, h3⟩ := forI_inv (tg := tg) (chk := chk) (b := b) (fun r ρ S => (∀ d ∈ r, d ∈ ds) ∧ P ρ S) ds ρ S ⟨fun _ h => h, h⟩ fun d r ρ S ⟨g1, g2⟩ => by
    obtain ⟨ρ1, h1, ρ', S', h2, h3, h4⟩ := step d (g1 d (List.mem_cons_self ..)) ρ S g2
    exact ⟨ρ1, h1, ρ', S', h2, h3, fun d hd => g1 d (List.mem_cons_of_mem _ hd), h4⟩
  exact ⟨ρ', S', h1, h3⟩
theorem fLt_ii (i j : Int) (S : Sto) : fLt (.int i) (.int j) S = .ok (.bl (decide (i < j))) S := rfl
theorem fLe_ii (i j : Int) (S : Sto) : fLe (.int i) (.int j) S = .ok (.bl (decide (i ≤ j))) S := rfl
theorem fGt_ii (i j : Int) (S : Sto) : fGt (.int i) (.int j) S = .ok (.bl (decide (j < i))) S := rfl
theorem fGe_ii (i j : Int) (S : Sto) : fGe (.int i) (.int j) S = .ok (.bl (decide (j ≤ i))) S := rfl
theorem fSub_ii (i j : Int) (S : Sto) : fSub (.int i) (.int j) S = .ok (.int (i - j)) S := rfl
theorem fMod_ii (i j : Int) (S : Sto) : fMod (.int i) (.int j) S = if 0 < j then .ok (.int (i % j)) S else .bad := by
  by_cases h : 0 < j <;> simp [fMod, fI, h]
theorem fMul_ii (i j : Int) (S : Sto) : fMul (.int i) (.int j) S = if mulOk i j = true then .ok (.int (i * j)) S else .bad := rfl
theorem fDiv_ii (i j : Int) (S : Sto) : fDiv (.int i) (.int j) S = if divOk i j = true then .ok (.int (i / j)) S else .bad := rfl
theorem fPow_ii (i j : Int) (S : Sto) : fPow (.int i) (.int j) S = if powOk i j = true then .ok (.int (i ^ j.toNat)) S else .bad := rfl
theorem mulOk_l {i j : Int} (h : i.natAbs < 18446744073709551616) : mulOk i j = true := decide_eq_true (.inl h)
theorem mulOk_r {i j : Int} (h : j.natAbs < 18446744073709551616) : mulOk i j = true := decide_eq_true (.inr (.inl h))
theorem divOk_of {i j : Int} (h : 0 < j) (h2 : j.natAbs < 2 ^ 9000) : divOk i j = true := by
  refine decide_eq_true ⟨h, ?_⟩
  by_cases h0 : j.natAbs = 0
  · omega
  · exact (Nat.log2_lt h0).mpr h2
theorem seq_set {i : Nat} {a : DE} {r : DS} {ρ : Env} {S S' : Sto} {d : D} (h : a ρ S = .ok d S') : sSeq (sSet i a) r ρ S = r (ρ.set i (some d)) S' := by simp [sSeq, sSet, h]
theorem seq_par {i j : Nat} {a b : DE} {r : DS} {ρ : Env} {S S1 S' : Sto} {d e : D} (h : a ρ S = .ok d S1) (h2 : b ρ S1 = .ok e S') : sSeq (sPar i j a b) r ρ S = r ((ρ.set i (some d)).set j (some e)) S' := by simp [sSeq, sPar, h, h2]
theorem seq_nx {a r : DS} {ρ ρ' : Env} {S S' : Sto} (h : a ρ S = .nx ρ' S') : sSeq a r ρ S = r ρ' S' := by simp [sSeq, h]
theorem for_nx {tg : Tg} {i : DI} {b : DS} {ρ : Env} {S S1 : Sto} {ds : List D} {chk : Sto → Prop} (h : i ρ S = .ok (ds, chk) S1) : sFor tg i b ρ S = forI tg b chk ds ρ S1 := by simp [sFor, h]
theorem ret_rt {a : DE} {ρ : Env} {S S' : Sto} {d : D} (h : a ρ S = .ok d S') : sRet a ρ S = .rt d S' := by simp [sRet, h]
theorem run_rt {N : Nat} {den : DS} {ds : List D} {S S' : Sto} {d : D} (h : den (env0 N ds) S = .rt d S') : runB N den ds S = .ok d S' := by simp [runB, h]
theorem seq_asg {tg : Tg} {a : DE} {r : DS} {ρ ρ' : Env} {S S' : Sto} {d : D} (h : a ρ S = .ok d S') (h2 : Tg.asg S' tg d ρ = some ρ') : sSeq (sAsg tg a) r ρ S = r ρ' S' := by simp [sSeq, sAsg, h, h2]
theorem seq_iff {t : DT} {x y r : DS} {ρ ρ' : Env} {S S' S2 : Sto} (h : t ρ S = .ok false S') (h2 : y ρ S' = .nx ρ' S2) : sSeq (sIf t x y) r ρ S = r ρ' S2 := by simp [sSeq, sIf, h, h2]
theorem seq_ift {t : DT} {x y r : DS} {ρ ρ' : Env} {S S' S2 : Sto} (h : t ρ S = .ok true S') (h2 : x ρ S' = .nx ρ' S2) : sSeq (sIf t x y) r ρ S = r ρ' S2 := by simp [sSeq, sIf, h, h2]
theorem seq_skip {t : DT} {x r : DS} {ρ : Env} {S S' : Sto} (h : t ρ S = .ok false S') : sSeq (sIf t x sNx) r ρ S = r ρ S' := by simp [sSeq, sIf, h, sNx]
theorem seq_drop {a : DE} {r : DS} {ρ : Env} {S S' : Sto} {d : D} (h : a ρ S = .ok d S') : sSeq (sDrop a) r ρ S = r ρ S' := by simp [sSeq, sDrop, h]
theorem set_nx {i : Nat} {a : DE} {ρ : Env} {S S' : Sto} {d : D} (h : a ρ S = .ok d S') : sSet i a ρ S = .nx (ρ.set i (some d)) S' := by simp [sSet, h]
theorem if_f {t : DT} {x y : DS} {ρ : Env} {S S' : Sto} (h : t ρ S = .ok false S') : sIf t x y ρ S = y ρ S' := by simp [sIf, h]
theorem if_t {t : DT} {x y : DS} {ρ : Env} {S S' : Sto} (h : t ρ S = .ok true S') : sIf t x y ρ S = x ρ S' := by simp [sIf, h]
theorem e2_ok {f : D → D → Sto → R D} {a b : DE} {ρ : Env} {S S1 S2 : Sto} {x y : D} (ha : a ρ S = .ok x S1) (hb : b ρ S1 = .ok y S2) : Z.e2 f a b ρ S = f x y S2 := by simp [Z.e2, ha, hb]
theorem e1_ok {f : D → Sto → R D} {a : DE} {ρ : Env} {S S1 : Sto} {x : D} (ha : a ρ S = .ok x S1) : Z.e1 f a ρ S = f x S1 := by simp [Z.e1, ha]
theorem fn1_ok {F : List D → Sto → R D} {a : DE} {ρ : Env} {S S1 : Sto} {x : D} (ha : a ρ S = .ok x S1) : eFn 1 F [] (aC a aN) ρ S = F [x] S1 := by simp [eFn, aC, aN, ha]
theorem fn2_ok {F : List D → Sto → R D} {a b : DE} {ρ : Env} {S S1 S2 : Sto} {x y : D} (ha : a ρ S = .ok x S1) (hb : b ρ S1 = .ok y S2) : eFn 2 F [] (aC a (aC b aN)) ρ S = F [x, y] S2 := by simp [eFn, aC, aN, ha, hb]
theorem fn3_ok {F : List D → Sto → R D} {a b d : DE} {ρ : Env} {S S1 S2 S3 : Sto} {x y z : D} (ha : a ρ S = .ok x S1) (hb : b ρ S1 = .ok y S2) (hd : d ρ S2 = .ok z S3) : eFn 3 F [] (aC a (aC b (aC d aN))) ρ S = F [x, y, z] S3 := by simp [eFn, aC, aN, ha, hb, hd]
theorem asg_nm (S : Sto) (i : Nat) (a : D) (ρ : Env) : Tg.asg S (.nm i) a ρ = some (ρ.set i (some a)) := by simp [Tg.asg]
theorem asg_p2 (S : Sto) (i j : Nat) (a b : D) (ρ : Env) : Tg.asg S (.tp [.nm i, .nm j]) (.tup [a, b]) ρ = some ((ρ.set i (some a)).set j (some b)) := by simp [Tg.asg, Tg.asgs, seqOf]
theorem asg_p3 (S : Sto) (i j l : Nat) (a b d : D) (ρ : Env) : Tg.asg S (.tp [.nm i, .nm j, .nm l]) (.tup [a, b, d]) ρ = some (((ρ.set i (some a)).set j (some b)).set l (some d)) := by simp [Tg.asg, Tg.asgs, seqOf]
theorem asg_n2 (S : Sto) (i j l : Nat) (a b d : D) (ρ : Env) : Tg.asg S (.tp [.nm i, .tp [.nm j, .nm l]]) (.tup [a, .tup [b, d]]) ρ = some (((ρ.set i (some a)).set j (some b)).set l (some d)) := by simp [Tg.asg, Tg.asgs, seqOf]
theorem rgOk_nat {n : Nat} (h : n ≤ 1000000) : rgOk ((n : Nat) : Int) = true := by
  unfold rgOk
  exact Nat.blt_eq.mpr (by omega)
theorem iR1_nat {a : DE} {ρ : Env} {S S' : Sto} {n : Nat} (h : a ρ S = .ok (.int (n : Nat)) S') (hn : n ≤ 1000000) : iR1 a ρ S = .ok (iRow 0 n, fun _ => True) S' := by
  unfold iR1
  rw [h]
  simp only [R.bind_ok]
  rw [if_pos (rgOk_nat hn)]
  rfl
theorem iR2_nat {a b : DE} {ρ : Env} {S S' S2 : Sto} {i n : Nat} (h : a ρ S = .ok (.int (i : Nat)) S') (h2 : b ρ S' = .ok (.int (n : Nat)) S2) (hi : i ≤ 1000000) (hn : n ≤ 1000000) : iR2 a b ρ S = .ok (iRow i (n - i), fun _ => True) S2 := by
  unfold iR2
  rw [h]
  simp only [R.bind_ok]
  rw [h2]
  simp only [R.bind_ok]
  rw [if_pos ⟨rgOk_nat hi, rgOk_nat hn⟩]
  congr 3
  omega
theorem atI_nat {α : Type} (xs : List α) (i : Nat) : L2.atI xs ((i : Nat) : Int) = xs[i]? := by
  unfold L2.atI ixN
  by_cases h : i < xs.length
  · rw [if_pos (by omega), if_pos (by omega)]
    simp
  · rw [if_pos (by omega), if_neg (by omega)]
    simp at h
    simp [h]
theorem atI_0 {α : Type} (x : α) (xs : List α) : L2.atI (x :: xs) 0 = some x := by
  have := atI_nat (x :: xs) 0
  simpa using this
theorem atI_1 {α : Type} (x y : α) (xs : List α) : L2.atI (x :: y :: xs) 1 = some y := by
  have := atI_nat (x :: y :: xs) 1
  simpa using this
theorem atI_2 {α : Type} (x y z : α) (xs : List α) : L2.atI (x :: y :: z :: xs) 2 = some z := by
  have := atI_nat (x :: y :: z :: xs) 2
  simpa using this
theorem ixN_nat (n i : Nat) (h : i < n) : ixN n ((i : Nat) : Int) = some i := by
  unfold ixN
  rw [if_pos (by omega), if_pos (by omega)]
  simp
theorem ixN_m1 (n : Nat) (h : 0 < n) : ixN n (-1) = some (n - 1) := by
  unfold ixN
  rw [if_neg (by omega), if_pos (by omega)]
  congr 1
  omega
theorem bools_map {α : Type} (f : α → Bool) : ∀ xs : List α, bools (xs.map fun x => D.bl (f x)) = some (xs.map f)
  | [] => rfl
  | x :: xs => by simp [bools, bools_map f xs]
theorem bools_true {α : Type} (xs : List α) : bools (xs.map fun _ => D.bl true) = some (xs.map fun _ => true) := bools_map (fun _ => true) xs
theorem enumF_mem : ∀ {k : Nat} {ds : List D} {d : D}, d ∈ enumF k ds → ∃ i x, ds[i]? = some x ∧ d = .tup [.int ((k + i : Nat) : Int), x]
  | _, [], _, h => by simp [enumF] at h
  | k, x :: ds, d, h => by
    simp only [enumF, List.mem_cons] at h
    rcases h with rfl | h
    · exact ⟨0, x, by simp, by simp⟩
    · obtain ⟨i, y, h1, rfl⟩ := enumF_mem h
      refine ⟨i + 1, y, by simpa using h1, ?_⟩
      congr 4
      omega
theorem eqD_int (S : Sto) (i j : Int) : eqD S (.int i) (.int j) = some (decide (i = j)) := by
  have e : SeqAt.shaped (.int i) = true := rfl
  have e' : SeqAt.shaped (.int j) = true := rfl
  unfold eqD
  simp only [toP, e, e', and_self, if_true, PyData.eqv]
  congr 1
end Z
namespace Z
open PySem L2
/-! ### the end: a law's walk from its plain law -/
def scrD (xs : List Int) : List D := xs.map .int
theorem sp_scr (K : PySem.W.Frag) {F : List D → Sto → R D} (H : Hp) (a : Addr) (ns : List Int) (hS : SqL K H a (ns.map V.int)) (hl : ∃ S, F [.scr (scrD ns)] [] = .ok (.bl true) S) : spI K 1 F [.ref a] H (fun v _ => v = .bl true) fun _ _ _ => False := by
  obtain ⟨S, hl⟩ := hl
  refine ⟨[], [], [.scr (scrD ns)], [], ⟨rfl, List.nodup_nil, fun a h => absurd h (by simp), fun b h => absurd h (by simp), fun n a o h => by simp at h⟩, ?_, rfl, ?_⟩
  · refine RDs.cons ?_ RDs.nil
    unfold RD
    refine ⟨a, ns.map V.int, rfl, ?_, ?_⟩
    · rcases hS with h | h
      · exact .inl ⟨by simp, by simp, h⟩
      · exact .inr h
    · clear hl hS
      induction ns with
      | nil => exact RDs.nil
      | cons n ns ih => exact RDs.cons (RDi n) ih
  · rw [hl]
    intro m' H' g r v rv
    unfold RD at rv
    exact rv
theorem walk_Z {l : PySem.W.OpenLaw} {k : Nat} {q : Program} {loose : List Str} {XP : (Str → Option Value) → Heap → Prop} {YP : World → Heap → Prop} {d : DefRec} {K : Params → PySem.W.Frag} {F : PySem.W.Frag → List D → Sto → R D}
    (hn : l.most = some 63) (hdf : d.params.defaults = []) (hr : Room k callerA) (hY : ∀ (w : World) (h : Heap), YP w h → (K w.params).In h)
    (hF : ∀ (w : World) (mg : Str → Option Value) (fa : Addr) (h : Heap), (K w.params).In h → h.Ns mainGlobals mg → mg d.name = some (.ref fa) →
      ∃ fd : FuncData, (∀ (s : Shared) (u : Value), BindsTo s fd ⟨[u], []⟩ [("script", u)]) ∧ ∀ base : Heap, (K w.params).In base → base.Ns mainGlobals mg → FnOk l.prog w (K w.params) mg base (L2.CX l.prog w) k fa fd ["script"] (spI (K w.params) 1 (F (K w.params))))
    (hl : ∀ (K : PySem.W.Frag) (ns : List Int), ns.length ≤ 63 → ∃ S, F K [.scr (scrD ns)] [] = .ok (.bl true) S) : PySem.W.WalkO q loose XP YP l.row.toRowW d [] (fun f vs => PySem.call f vs) :=
  L2.walk_of (l := l) (n := 63) (k := k) (K := K) (x := "script") (CX := fun w => L2.CX l.prog w) (sp := fun w => spI (K w.params) 1 (F (K w.params))) hn (by decide) hdf hr hY hF (fun w H a ns h1 _ hS => sp_scr _ H a ns hS (hl _ ns h1)) fun w H s e s' h => by
    obtain ⟨_, _, _, _, _, _, _, _, _, _, _, _, h⟩ := h
    exact h
end Z
namespace Z
open PySem L2

/-! ### a list made out of parts -/
section
variable {K : PySem.W.Frag} {m m' B : List Addr} {H H' : Hp} {W : Value → Option Addr → Hp → Prop} {Q : VK}
theorem PostL.ge {r : R (List D)} (h : PostL K m B H W Q r) (g : Ge m H m' H') : PostL K m' B H' W Q r := by
  cases r with
  | ok ds S => exact fun m2 H2 p vs g2 r2 hB h0 h2 rv => h m2 H2 p vs (g.trans g2) r2 hB (g.new_was (fun hm => r2.dis p (by obtain ⟨⟨l, e⟩, _⟩ := g2; rw [e]; exact List.mem_append_left _ hm) (List.mem_cons_self ..)) h0) h2 rv
  | exc c d S => exact fun m2 H2 x v g2 r2 e2 d2 => h m2 H2 x v (g.trans g2) r2 e2 d2
  | bad => exact h
theorem PostL.bind {α : Type} {r : R α} {f : α → Sto → R (List D)} (h : PostL K m B H W Q (r.bind f)) : Post K m B H W (fun a S' m' H' => PostL K m' B H' W Q (f a S')) r := by
  cases r with
  | ok a S => exact fun m2 H2 g2 r2 => PostL.ge (show PostL K m B H W Q (f a S) from h) g2
  | exc c d S => exact h
  | bad => exact h
/-- the list is there: a new one -/
theorem PostL.put {ds : List D} {vs : List V} {S : Sto} (h : PostL K m B H W Q (.ok ds S)) (rs : RS K m B H S) (rv : RDs K m B H ds vs) {p : Addr} (hp : H p = none) : Q (.ref p) (upd H p (.lst vs)) :=
  h m _ p vs (rs.new hp).1 (rs.ban hp) (rs.notB hp) hp upd_same (RDs.mono (Tr.ban hp) _ _ rv)
end
theorem tE.takeL {W : WX} {K : PySem.W.Frag} {da : DE} {f : D → Sto → R (List D)} {σ : L2.St} {H : Hp} {Q Q' : VK} {m B : List Addr} {ρ : Env} {S : Sto} (r : RS K m B H S) (e : REs K m B H ρ σ) (h : PostL K m B H (fun c x H' => W c x σ H') Q ((da ρ S).bind f))
    (k : ∀ d S1 m1 H1 v, Ge m H m1 H1 → RS K m1 B H1 S1 → REs K m1 B H1 ρ σ → RD K m1 B H1 d v → PostL K m1 B H1 (fun c x H' => W c x σ H') Q (f d S1) → Q' v H1) : tE W K da σ H Q' :=
  ⟨m, B, ρ, S, r, e, (PostL.bind h).imp fun d S1 m1 H1 g1 r1 p v rv => k d S1 m1 H1 v g1 r1 (e.mono g1.tr) rv p⟩
theorem tAr.takeL {W : WX} {K : PySem.W.Frag} {da : DA} {f : List D → Sto → R (List D)} {σ : L2.St} {H : Hp} {Q : VK} {Q' : List V → Hp → Prop} {m B : List Addr} {ρ : Env} {S : Sto} (r : RS K m B H S) (e : REs K m B H ρ σ) (h : PostL K m B H (fun c x H' => W c x σ H') Q ((da ρ S).bind f))
    (k : ∀ d S1 m1 H1 v, Ge m H m1 H1 → RS K m1 B H1 S1 → REs K m1 B H1 ρ σ → RDs K m1 B H1 d v → PostL K m1 B H1 (fun c x H' => W c x σ H') Q (f d S1) → Q' v H1) : tAr W K da σ H Q' :=
  ⟨m, B, ρ, S, r, e, (PostL.bind h).imp fun d S1 m1 H1 g1 r1 p v rv => k d S1 m1 H1 v g1 r1 (e.mono g1.tr) rv p⟩
/-- a list that stands in the heap itself -/
def lstH (S : Sto) : D → Option (List D)
  | .lst ds => some ds
  | .ref n => match S[n]? with
    | some (.lst ds) => some ds
    | _ => none
  | _ => none
theorem lstH_ok {K : PySem.W.Frag} {m B : List Addr} {H : Hp} {S : Sto} (rs : RS K m B H S) {d : D} {v : V} {ds : List D} (rd : RD K m B H d v) (h : lstH S d = some ds) : ∃ a vs, v = .ref a ∧ H a = some (.lst vs) ∧ RDs K m B H ds vs := by
  cases d with
  | lst xs =>
    unfold RD at rd
    obtain ⟨a, vs, rfl, f, r⟩ := rd
    cases h
    exact ⟨a, vs, rfl, f.2.2, r⟩
  | ref n =>
    unfold RD at rd
    obtain ⟨a, rfl, q⟩ := rd
    simp only [lstH] at h
    split at h
    · rename_i xs hn
      cases h
      obtain ⟨vs, ea, rv⟩ := rs.ob n a _ q hn
      exact ⟨a, vs, rfl, ea, rv⟩
    · cases h
  | _ => cases h
def gCat (S : Sto) (x y : D) : R (List D) := match lstH S x, lstH S y with
  | some xs, some ys => if xs.length + ys.length ≤ 16777216 then .ok (xs ++ ys) S else .bad
  | _, _ => .bad
def lCat (a b : DE) : DA := fun ρ S => (a ρ S).bind fun x S1 => (b ρ S1).bind fun y S2 => gCat S2 x y
section
variable {X : Cx} {pos p0 apos : Pos} {a b e o i : Expr} {da db de dobj di : DE} {t : DA}
theorem zl_cat (ha : ZE X a da) (hb : ZE X b db) : ZL X (.BinOp a .Add b pos) (lCat da db) := fun W tk => pe_weak (pe_op op_cat (ha W tk) (hb W tk)) fun σ H Q ⟨m, B, ρ, S, rs, e, p⟩ =>
  tE.takeL rs e p fun x S1 m1 H1 v g1 r1 e1 rx p1 => tE.takeL r1 e1 p1 fun y S2 m2 H2 u g2 r2 e2 ry p2 => by
    unfold gCat at p2
    split at p2
    · rename_i xs ys h1 h2
      split at p2
      · rename_i hl
        obtain ⟨a1, vs, rfl, q1, w1⟩ := lstH_ok r2 (rx.mono g2.tr) h1
        obtain ⟨a2, us, rfl, q2, w2⟩ := lstH_ok r2 ry h2
        exact ⟨a1, a2, vs, us, rfl, rfl, q1, q2, by rw [← w1.len, ← w2.len, sizeLine_eq]; exact hl, fun p hp => p2.put r2 (w1.app w2) hp⟩
      · exact p2.elim
    · exact p2.elim

/-! ### a tuple so many times -/
def fRepT : D → D → Sto → R D
  | .tup ds, .int k, S => if ds ≠ [] ∧ 2 ≤ k ∧ k ≤ 1000 ∧ ds.length ≤ 1000 then .ok (.tup (List.replicate k.toNat ds).flatten) S else .bad
  | _, _, _ => .bad
theorem RDs.rep {K : PySem.W.Frag} {m B : List Addr} {H : Hp} {ds : List D} {vs : List V} (h : RDs K m B H ds vs) : ∀ n, RDs K m B H (List.replicate n ds).flatten (List.replicate n vs).flatten
  | 0 => RDs.nil
  | n + 1 => by
    rw [List.replicate_succ, List.replicate_succ, List.flatten_cons, List.flatten_cons]
    exact h.app (h.rep n)
theorem okRepT {K : PySem.W.Frag} : OkOp K (rRepT K) fRepT := by
  intro m B H S d e x y W Q rs rd re p
  cases d with
  | tup ds =>
    cases e with
    | int k =>
      unfold RD at rd re
      obtain ⟨a, vs, rfl, f, r⟩ := rd
      subst re
      simp only [fRepT] at p
      split at p
      · rename_i h
        refine ⟨a, k, vs, rfl, rfl, f.sq, fun e0 => h.1 (List.length_eq_zero_iff.mp (by rw [r.len, e0]; rfl)), h.2.1, h.2.2.1, by rw [← r.len]; exact h.2.2.2, fun q hq => ?_⟩
        obtain ⟨g2, r2⟩ := rs.new (u := .tup (List.replicate k.toNat vs).flatten) hq
        refine p m _ g2 r2 _ ?_
        unfold RD
        exact ⟨q, _, rfl, .inl ⟨rs.notin hq, rs.notB hq, .inl upd_same⟩, RDs.mono g2.tr _ _ (r.rep _)⟩
      · exact p.elim
    | _ => exact p.elim
  | _ => cases e <;> exact p.elim
theorem ze_repT (ha : ZE X a da) (hb : ZE X b db) : ZE X (.BinOp a .Mult b pos) (e2 fRepT da db) := ze_op op_repT okRepT ha hb

/-! ### a < b: numbers, tuples of numbers -/
def intsD : List D → Option (List Int)
  | [] => some []
  | .int i :: r => (intsD r).map fun l => i :: l
  | _ :: _ => none
theorem intsD_ok {K : PySem.W.Frag} {m B : List Addr} {H : Hp} : ∀ {ds : List D} {vs : List V} {ns : List Int}, RDs K m B H ds vs → intsD ds = some ns → vs = ns.map V.int
  | [], _, _, h, e => by unfold RDs at h; simp only [intsD] at e; cases e; exact h
  | d :: ds, _, _, h, e => by
    unfold RDs at h
    obtain ⟨x, r, rfl, h1, h2⟩ := h
    cases d with
    | int b =>
      unfold RD at h1
      subst h1
      simp only [intsD, Option.map_eq_some_iff] at e
      obtain ⟨bs, e1, rfl⟩ := e
      rw [intsD_ok h2 e1]
      rfl
    | _ => simp only [intsD] at e; cases e
def fLtA : D → D → Sto → R D
  | .int i, .int j, S => .ok (.bl (decide (i < j))) S
  | .tup xs, .tup ys, S => match intsD xs, intsD ys with
    | some ns, some ks => .ok (.bl (HT.lexLt ns ks)) S
    | _, _ => .bad
  | _, _, _ => .bad
def rLtA (K : PySem.W.Frag) : R2 := fun x y H Q => rI0 (fun i j => .bl (decide (i < j))) x y H Q ∨ rLtT K x y H Q
theorem okLtA {K : PySem.W.Frag} : OkOp K (rLtA K) fLtA := by
  intro m B H S d e x y W Q rs rd re p
  cases d with
  | int i =>
    cases e with
    | int j => unfold RD at rd re; subst rd re; exact .inl ⟨i, j, rfl, rfl, p.now rs _ (RDb _)⟩
    | _ => exact p.elim
  | tup xs =>
    cases e with
    | tup ys =>
      unfold RD at rd re
      obtain ⟨a, vs, rfl, f, r⟩ := rd
      obtain ⟨b, us, rfl, f2, r2⟩ := re
      simp only [fLtA] at p
      split at p
      · rename_i ns ks h1 h2
        have e1 := intsD_ok r h1
        have e2 := intsD_ok r2 h2
        subst e1 e2
        exact .inr ⟨a, b, ns, ks, rfl, rfl, f.sq, f2.sq, p.now rs _ (RDb _)⟩
      · exact p.elim
    | _ => exact p.elim
  | _ => cases e <;> exact p.elim
theorem op_ltA (hu : X.A.units < cLine) : OpR X (compareOp .Lt) (rLtA X.K) := op_lt.or (op_ltT hu)
theorem ze_ltA (hu : X.A.units < cLine) (ha : ZE X a da) (hb : ZE X b db) : ZE X (.Compare a [.Lt] [b] pos) (e2 fLtA da db) := ze_cmp (op_ltA hu) okLtA ha hb (nomark _)
theorem zt_ltA (hu : X.A.units < cLine) (ha : ZE X a da) (hb : ZE X b db) : ZT X (.Compare a [.Lt] [b] pos) (tVB (e2 fLtA da db)) := zt_cmp (op_ltA hu) okLtA ha hb (nomark _)
/-! ### name += number -/
def sAug (n : Nat) (a : DE) : DS := fun ρ S => match ρ[n]? with
  | some (some (.int i)) => (a ρ S).to ρ fun y S1 => match y with
    | .int j => .nx (ρ.set n (some (.int (i + j)))) S1
    | _ => .bad
  | _ => .bad
theorem zs_aug {n : Nat} {x : Str} {p1 : Pos} (hN : X.N.Nodup) (ha : ZE X a da) (hi : X.N[n]? = some x := by rfl) (hx : Loc X.env.scope x := by first | exact .inl rfl | exact .inr rfl) (hf : X.fn x = true ∨ X.env.scope.names.lookup x = some .local := by first | exact .inl rfl | exact .inr rfl | assumption) :
    ZS X (.AugAssign (.Name x p1) .Add a pos) (sAug n da) := fun W tk => ps_weak (ps_aug hN hi hx (ha W tk) ip_add hf) fun E σ H ⟨m, B, ρ, S, rs, e, p⟩ => by
  unfold sAug at p
  split at p
  · rename_i k hk
    obtain ⟨v, h1, rv⟩ := e.getE hk
    unfold RD at rv
    subst rv
    refine ⟨_, h1, tE.takeS rs e p fun d S1 m1 H1 u g1 r1 e1 rd p1 => ?_⟩
    cases d <;> try exact p1.elim
    rename_i j
    unfold RD at rd
    subst rd
    exact ⟨k, j, rfl, rfl, p1 m1 H1 _ (.refl _ _) r1 (e1.set n (RDi _))⟩
  · exact p.elim

/-! ### xs.extend(ys) -/
def fExt : D → List D → Sto → R D
  | .ref n, [y], S => match S[n]?, lstH S y with
    | some (.lst ds), some es => if ds.length + es.length ≤ 16777216 then .ok .non (S.set n (.lst (ds ++ es))) else .bad
    | _, _ => .bad
  | _, _, _ => .bad
theorem okExt {K : PySem.W.Frag} : OkM K rExtend fExt := by
  intro m B H S d ds x vs W Q rs rd rds p
  cases d <;> try exact p.elim
  rename_i n
  match ds, rds, p with
  | [], _, p => exact p.elim
  | _ :: _ :: _, _, p => exact p.elim
  | [y], rds, p =>
    obtain ⟨w, rfl, rw'⟩ := rds.one
    unfold RD at rd
    obtain ⟨a, rfl, hq⟩ := rd
    simp only [fExt] at p
    split at p
    · rename_i ds es hn hy
      split at p
      · rename_i hz
        obtain ⟨us, hv, rv⟩ := rs.ob n a _ hq hn
        obtain ⟨b, ws, rfl, hb, rb⟩ := lstH_ok rs rw' hy
        refine ⟨a, b, us, ws, rfl, rfl, hv, hb, by rw [← rv.len, ← rb.len, sizeLine_eq]; exact hz, ?_⟩
        obtain ⟨g4, r4⟩ := rs.put (u := .lst (us ++ ws)) (o := .lst (ds ++ es)) hq fun H' g h' => ⟨_, h', RDs.mono g.tr _ _ (rv.app rb)⟩
        exact p m _ g4 r4 _ RDn
      · exact p.elim
    · exact p.elim
theorem ze_ext (ho : ZE X o dobj) (ha : ZA X [e] t) (hb : attributeBase o "extend" X.env (eval o X.env) = eval o X.env := by rfl)
    (hfew : ((backTo pos (starEach [e] X.env)).all (fun x => !x.1) && (backToKw pos (keywordEach [] X.env)).all (fun x => x.1.isSome) && decide ([e].length + ([] : List Keyword).length + (if ([] : List Keyword).isEmpty then 0 else 1) < 30)) = true := by rfl)
    (hl : (apos.endLine == pos.line) = true := by rfl) (hs : starEach [e] X.env = (false, eval e X.env) :: starEach [] X.env := by rfl) : ZE X (.Call (.Attribute o "extend" apos) [e] [] pos) (eBM fExt dobj t) :=
  ze_bm PySem.F.slot_list_extend PySem.F.type_list_extend mt_extend okExt ho ha hb hfew hl hs

/-! ### list(x): a new list -/
def keyD : Key → D
  | .inl i => .int i
  | .inr s => .str s
def listD (S : Sto) : D → Option (List D)
  | .ref n => match S[n]? with
    | some (.lst ds) => some ds
    | some (.dct kvs) => some (kvs.map fun kv => keyD kv.1)
    | _ => none
  | d => seqOf S d
def gList (S : Sto) : List D → R (List D)
  | [d] => match listD S d with
    | some ds => .ok ds S
    | none => .bad
  | _ => .bad
def lList (a : DA) : DA := fun ρ S => (a ρ S).bind fun ds S1 => gList S1 ds
theorem keyD_rd {K : PySem.W.Frag} {m B : List Addr} {H : Hp} (k : Key) : RD K m B H (keyD k) (kV k) := by
  cases k with
  | inl i => exact RDi i
  | inr s => exact RDst s
theorem keys_rd {K : PySem.W.Frag} {m B : List Addr} {H : Hp} : ∀ {kvs : List (Key × D)} {vs : List (Key × V)}, RFs K m B H kvs vs → RDs K m B H (kvs.map fun kv => keyD kv.1) (vs.map fun kv => kV kv.1)
  | [], _, h => by
    have h' : _ = _ := h
    rw [h']
    exact RDs.nil
  | p :: fs, _, ⟨x, r, e, h1, h2⟩ => by
    subst e
    exact RDs.cons (keyD_rd _) (keys_rd h2)
def rListA (K : PySem.W.Frag) : List V → Hp → VK → Prop := fun xs H Q => (∃ p ys, xs = [.ref p] ∧ (SqL K H p ys ∨ SqT K H p ys) ∧ ∀ l, H l = none → Q (.ref l) (upd H l (.lst ys))) ∨ (∃ (a : Addr) (kvs : List (Key × V)), xs = [.ref a] ∧ Rd H a (.dK kvs) ∧ ∀ p, H p = none → Q (.ref p) (upd H p (.lst (kvs.map fun kv => kV kv.1))))
theorem cr_listA (hc : X.calm = true) : CallR X (.type "list") (rListA X.K) := call_list_of.or (call_listD hc)
theorem zl_list (hc : X.calm = true) (hm : X.mg "list" = none) (ha : ZA X [e] t) (hg : Gl X "list" := by rfl) (he : starEach [e] X.env = (false, eval e X.env) :: starEach [] X.env := by rfl) : ZL X (.Call (.Name "list" p0) [e] [] pos) (lList t) := fun W tk =>
  pe_weak (pe_callTy (cr_listA hc) hg hm (by decide +kernel) (ha W tk) (by decide) (by decide) he (by rfl)) fun σ H Q ⟨m, B, ρ, S, rs, e, p⟩ => tAr.takeL rs e p fun ds S1 m1 H1 vs g1 r1 e1 rds p1 => by
    match ds, rds, p1 with
    | [], _, p1 => exact p1.elim
    | _ :: _ :: _, _, p1 => exact p1.elim
    | [d], rds, p1 =>
      obtain ⟨v, rfl, rv⟩ := rds.one
      simp only [gList] at p1
      split at p1
      · rename_i ds hd
        by_cases hs : ∃ es, seqOf S1 d = some es ∧ es = ds
        · obtain ⟨es, h1, rfl⟩ := hs
          obtain ⟨a, us, rfl, sq, r⟩ := seqOf_ok r1 rv h1
          exact .inl ⟨a, us, rfl, sq, fun p hp => p1.put r1 r hp⟩
        · cases d with
          | ref n =>
            simp only [listD] at hd
            split at hd
            · rename_i es hn
              cases hd
              exact absurd ⟨ds, by simp only [seqOf, hn], rfl⟩ hs
            · rename_i kvs hn
              cases hd
              unfold RD at rv
              obtain ⟨a, rfl, q⟩ := rv
              obtain ⟨us, ea, ru⟩ := r1.ob n a _ q hn
              exact .inr ⟨a, us, rfl, .inl ea, fun p hp => p1.put r1 (keys_rd ru) hp⟩
            · cases hd
          | _ => exact absurd ⟨_, hd, rfl⟩ hs
      · exact p1.elim

/-! ### max(xs), whole numbers -/
def maxI : Int → List Int → Int
  | m, [] => m
  | m, x :: r => maxI (if x > m then x else m) r
theorem maxI_ge : ∀ (l : List Int) (m : Int), m ≤ maxI m l ∧ ∀ x ∈ l, x ≤ maxI m l
  | [], m => ⟨Int.le_refl _, fun x h => absurd h (by simp)⟩
  | y :: l, m => by
    have ih := maxI_ge l (if y > m then y else m)
    have k : m ≤ (if y > m then y else m) ∧ y ≤ (if y > m then y else m) := by split <;> omega
    unfold maxI
    refine ⟨Int.le_trans k.1 ih.1, fun x h => ?_⟩
    rcases List.mem_cons.mp h with rfl | h
    · exact Int.le_trans k.2 ih.1
    · exact ih.2 x h
theorem maxI_mem : ∀ (l : List Int) (m : Int), maxI m l = m ∨ maxI m l ∈ l
  | [], m => .inl rfl
  | y :: l, m => by
    unfold maxI
    rcases maxI_mem l (if y > m then y else m) with h | h
    · by_cases hy : y > m
      · rw [if_pos hy] at h ⊢
        exact .inr (by rw [h]; exact List.mem_cons_self ..)
      · rw [if_neg hy] at h ⊢
        exact .inl h
    · exact .inr (List.mem_cons_of_mem _ h)
def fMax : List D → Sto → R D
  | [d], S => match (lstOf S d).bind intsD with
    | some (x :: r) => .ok (.int (maxI x r)) S
    | _ => .bad
  | _, _ => .bad
theorem okMax {K : PySem.W.Frag} : OkCall K (rMax K) fMax := by
  intro m B H S ds vs W Q rs rds p
  match ds with
  | [] => exact p.elim
  | d :: e :: r => exact p.elim
  | [d] =>
    obtain ⟨v, rfl, rv⟩ := rds.one
    simp only [fMax] at p
    split at p
    · rename_i x l h
      obtain ⟨ds, h1, h2⟩ := Option.bind_eq_some_iff.mp h
      obtain ⟨a, vs, rfl, sq, r⟩ := lstOf_ok rs rv h1
      rw [intsD_ok r h2] at sq
      refine ⟨a, x :: l, rfl, sq, by simp, fun k hk hge => ?_⟩
      have e : k = maxI x l := by
        have h3 := (maxI_ge l x)
        have h4 : maxI x l ≤ k := hge _ (by rcases maxI_mem l x with q | q; · rw [q]; exact List.mem_cons_self ..
                                            · exact List.mem_cons_of_mem _ q)
        rcases List.mem_cons.mp hk with rfl | hk
        · omega
        · have := h3.2 k hk
          omega
      rw [e]
      exact p.now rs _ (RDi _)
    · exact p.elim
theorem ze_max (hc : X.calm = true) (hm : X.mg "max" = none) (ha : ZA X [e] t) (hg : Gl X "max" := by rfl) (he : starEach [e] X.env = (false, eval e X.env) :: starEach [] X.env := by rfl) : ZE X (.Call (.Name "max" p0) [e] [] pos) (eCall fMax t) := ze_callB (cr_max hc) okMax hm ha hg (he := he)
end
end Z
namespace Z
open PySem PySem.Spec PyProof.Rows L2

/-! ### a set out of a list of whole numbers -/
/-- the empty set, as it is made -/
abbrev set0 (w : World) : Obj := ⟨.type "set", none, .set #[] 0 (.fresh 0 0 (!w.params.followText "set-order")), #[]⟩
section
variable {P : Program} {w : World} {A : Around} {E : Value → Shared → Prop} {s : Shared}
/-- what the set at S is to be, made of ns; else the heap grows -/
def SetBy (w : World) (s : Shared) (ns : List Int) (s' : Shared) : Prop :=
  ∃ h' tk c, s' = { s with heap := h', toks := tk } ∧ SetR w h' s.heap.objs.size (fun j => decide (j ∈ ns)) c ∧ c ≤ ns.length ∧ ∀ b o, s.heap.get? b = some o → h'.get? b = some o
theorem set_fill {l : Addr} {us : Array Value} {ns : List Int} (hh : A.handled = none) (hl : s.heap.IsList l us) (hit : IntsAre us.toList ns) (hb : ns.length + 1 < scanBound) :
    codeAny (model P w) A (.call (.builtin "set.__init__") ⟨[.ref s.heap.objs.size, .ref l], []⟩) (wants (fun r s₂ => r = .none ∧ SetBy w s ns s₂) E) { s with heap := s.heap.push (set0 w) } := by
  have nn : us.size = ns.length := by
    have z := IntsAre.length hit
    rw [Array.length_toList] at z
    exact z
  have own : (s.heap.push (set0 w)).get? s.heap.objs.size = some (set0 w) := Heap.get?_push_size _ rfl
  have ty : Shared.TypeIs { s with heap := s.heap.push (set0 w) } (.ref s.heap.objs.size) "set" := ⟨_, own, rfl⟩
  refine codeAny_call_builtin F.called_set.init.plain F.entry_set_init (check_set_init_1 ty ?_)
  obtain ⟨ob, g0, c0, k0, d0⟩ := hl
  obtain ⟨oc, od, odt, os⟩ := ob
  simp only at c0 d0
  subst c0 d0
  have g1 : (s.heap.push (set0 w)).get? l = some ⟨.type "list", od, .seq us k0, os⟩ := Heap.get?_push_of_some _ g0
  have ls : (s.heap.push (set0 w)).IsList l us := ⟨_, g1, rfl, k0, rfl⟩
  have n1 := F.sub_list_set
  have n2 := F.sub_list_frozenset
  have n3 : (Value.type "list" == Value.type "dict") = false := by decide
  unfold Builtin.«set.__init__» noKeywords Builtin.Frozenset.updateFrom
  generalize hIt : pyIter = It
  wp_walk
  subst hIt
  have lt : l < s.heap.objs.size := Heap.lt_size g0
  have sz : (s.heap.push (set0 w)).objs.size = s.heap.objs.size + 1 := Heap.size_push ..
  have far : l ≠ (s.heap.push (set0 w)).objs.size := by rw [sz]; exact Nat.ne_of_lt (Nat.lt_succ_of_lt lt)
  have out : s.heap.objs.size ∉ [(s.heap.push (set0 w)).objs.size, l] := by
    rw [sz]
    simp only [List.mem_cons, List.not_mem_nil, or_false, not_or]
    exact ⟨Nat.ne_of_lt (Nat.lt_succ_self _), Nat.ne_of_gt lt⟩
  have each : ∀ (i : Nat) (v : Value), us[i]? = some v → ∃ k t, ns[i]? = some k ∧ v = .int k t := fun i v hv => by
    have hi : i < ns.length := nn ▸ (Array.getElem?_eq_some_iff.mp hv).1
    obtain ⟨t, e⟩ := IntsAre.int_at hit i v (by rw [Array.getElem?_toList]; exact hv)
    exact ⟨ns[i], t, List.getElem?_eq_getElem hi, by rw [e, List.getD_eq_getElem?_getD, List.getElem?_eq_getElem hi]; rfl⟩
  refine wpAny_pyIter_list ls (wpAny_bind (wpAny_runValue ?_))
  have h3 : A.in1.in1.handled = none := by simp [hh]
  refine set_update_ints ((Walks.list h3 _ l far us).toS) s.heap.objs.size out ns nn hb each (us.size - 0) 0 _ (by omega) (Nat.zero_le _) ?_ ⟨0, Nat.le_refl 0, ?_⟩ fun s' c' hm hc' hS' => ?_
  · exact ⟨⟨_, Heap.get?_push_size _ rfl, rfl, rfl⟩, (ls.push _)⟩
  · exact setR_new_at (Heap.get?_push_of_some _ own)
  obtain ⟨h', g2, d', tk', os'⟩ := s'
  have eg : g2 = s.gens := hm.gens
  have ed : d' = s.drawn := hm.drawn
  have eo : os' = s.os := hm.os
  subst eg ed eo
  show wpAny _ _ _ _ _ _
  refine wpAny_pure ?_
  show wpAny _ _ (ret Value.none) _ _ _
  refine wpAny_pure ⟨rfl, h', tk', c', rfl, hS', nn ▸ hc', fun b o e => hm.heap b o ?_ (Heap.get?_push_of_some _ (Heap.get?_push_of_some _ e))⟩
  have lb : b < s.heap.objs.size := Heap.lt_size e
  rw [sz]
  simp only [List.mem_cons, List.not_mem_nil, or_false, not_or]
  exact ⟨Nat.ne_of_lt lb, Nat.ne_of_lt (Nat.lt_succ_of_lt lb)⟩
theorem set_ofInts {l : Addr} {us : Array Value} {ns : List Int} {Q : Value → Shared → Prop} (hh : A.handled = none) (hl : s.heap.IsList l us) (hit : IntsAre us.toList ns) (hb : ns.length + 1 < scanBound)
    (h : ∀ s', SetBy w s ns s' → Q (.ref s.heap.objs.size) s') : wpAny (model P w) A (call (.type "set") [.ref l]) Q E s := by
  obtain ⟨c, tl, hmro⟩ := F.called_set.mro
  have made := F.called_set.made
  have sub := F.called_set.sub
  have f1 := F.called_set.notType
  have f2 := F.called_set.canCreate
  have f3 := F.typeCall_set_1 (.ref l)
  refine wpAny_call (codeAny_of_tree (show wpAny _ _ (callAny (.type "set") _) _ _ _ from wpAny_pure ⟨Code.quiet_builtin _ (by decide +kernel), codeAny_builtin F.entry_type_call ?_⟩))
  rw [Around.under_plain (weight_type_call_type "set" [.ref l] []) rfl]
  repeat (any_goals (first | assumption | wp_step))
  refine codeAny_mono (code_set_led1 (.ref l) (E := E) (Q₁ := fun obj s₁ => obj = .ref s.heap.objs.size ∧ s₁ = { s with heap := s.heap.push (set0 w) }) ⟨rfl, rfl⟩) fun r s₁ hr => ?_
  match r, hr with
  | .error e, hr => exact hr
  | .ok .next, hr => exact hr.elim
  | .ok .brk, hr => exact hr.elim
  | .ok .cont, hr => exact hr.elim
  | .ok (.ret obj), hr =>
    obtain ⟨rfl, rfl⟩ := hr
    have own : (s.heap.push (set0 w)).get? s.heap.objs.size = some (set0 w) := Heap.get?_push_size _ rfl
    have ty : Shared.TypeIs { s with heap := s.heap.push (set0 w) } (.ref s.heap.objs.size) "set" := ⟨_, own, rfl⟩
    have i1 := F.called_set.init.lookup
    have i2 := F.called_set.init.bind (.ref s.heap.objs.size)
    repeat (any_goals (first | assumption | wp_step))
    refine codeAny_mono (set_fill (E := E) (by simpa using hh) hl hit hb) fun r₂ s₂ hr₂ => ?_
    match r₂, hr₂ with
    | .error e, hr₂ => exact hr₂
    | .ok .next, hr₂ => exact hr₂.elim
    | .ok .brk, hr₂ => exact hr₂.elim
    | .ok .cont, hr₂ => exact hr₂.elim
    | .ok (.ret r), hr₂ =>
      obtain ⟨rfl, hx⟩ := hr₂
      repeat (any_goals (first | assumption | wp_step))
      exact h _ hx
end
end Z
namespace Z
open PySem L2

/-! ### sorted by a key -/
section
variable {α : Type}
def insK (key : α → Int) (x : α) : List α → List α
  | [] => [x]
  | y :: r => if key x ≤ key y then x :: y :: r else y :: insK key x r
def sortK (key : α → Int) : List α → List α
  | [] => []
  | x :: r => insK key x (sortK key r)
theorem insK_perm (key : α → Int) (x : α) : ∀ l, (insK key x l).Perm (x :: l)
  | [] => .refl _
  | y :: r => by
    unfold insK
    split
    · exact .refl _
    · exact ((insK_perm key x r).cons y).trans (.swap x y r)
theorem sortK_perm (key : α → Int) : ∀ l, (sortK key l).Perm l
  | [] => .refl _
  | x :: r => (insK_perm key x _).trans ((sortK_perm key r).cons x)
theorem insK_pw (key : α → Int) (x : α) : ∀ l, l.Pairwise (fun x y => key x ≤ key y) → (insK key x l).Pairwise fun x y => key x ≤ key y
  | [], _ => List.pairwise_singleton ..
  | y :: r, h => by
    unfold insK
    obtain ⟨h1, h2⟩ := List.pairwise_cons.mp h
    split
    · rename_i hx
      exact List.pairwise_cons.mpr ⟨fun z hz => by
        rcases List.mem_cons.mp hz with rfl | hz
        · exact hx
        · exact Int.le_trans hx (h1 z hz), h⟩
    · rename_i hx
      refine List.pairwise_cons.mpr ⟨fun z hz => ?_, insK_pw key x r h2⟩
      rcases List.mem_cons.mp ((insK_perm key x r).mem_iff.mp hz) with rfl | hz
      · omega
      · exact h1 z hz
theorem sortK_pw (key : α → Int) : ∀ l, (sortK key l).Pairwise fun x y => key x ≤ key y
  | [] => .nil
  | x :: r => insK_pw key x _ (sortK_pw key r)
theorem sortK_uniq {key : α → Int} {l m : List α} (hp : m.Perm l) (hs : m.Pairwise fun x y => key x ≤ key y) (hi : ∀ x ∈ l, ∀ y ∈ l, key x = key y → x = y) : m = sortK key l :=
  List.Perm.eq_of_pairwise (fun a b ha hb h1 h2 => hi a (hp.mem_iff.mp ha) b ((sortK_perm key l).mem_iff.mp hb) (Int.le_antisymm h1 h2)) hs (sortK_pw key l) (hp.trans (sortK_perm key l).symm)
/-- each once -/
def insU (key : α → Int) (x : α) : List α → List α
  | [] => [x]
  | y :: r => if key x < key y then x :: y :: r else if key x = key y then y :: r else y :: insU key x r
def usortK (key : α → Int) : List α → List α
  | [] => []
  | x :: r => insU key x (usortK key r)
theorem insU_mem {key : α → Int} {x : α} : ∀ {l : List α}, (∀ y ∈ l, key x = key y → x = y) → ∀ z, z ∈ insU key x l ↔ z = x ∨ z ∈ l
  | [], _, z => by simp [insU]
  | y :: r, h, z => by
    unfold insU
    split
    · simp
    · split
      · rename_i he
        have := h y (List.mem_cons_self ..) he
        subst this
        simp
      · have ih := insU_mem (key := key) (x := x) (l := r) (fun w hw => h w (List.mem_cons_of_mem _ hw)) z
        rw [List.mem_cons, ih, List.mem_cons]
        constructor
        · rintro (h | h | h)
          · exact .inr (.inl h)
          · exact .inl h
          · exact .inr (.inr h)
        · rintro (h | h | h)
          · exact .inr (.inl h)
          · exact .inl h
          · exact .inr (.inr h)
theorem usortK_mem {key : α → Int} : ∀ {l : List α}, (∀ x ∈ l, ∀ y ∈ l, key x = key y → x = y) → ∀ z, z ∈ usortK key l ↔ z ∈ l
  | [], _, z => by simp [usortK]
  | x :: r, h, z => by
    have ih := usortK_mem (key := key) (l := r) fun a ha b hb => h a (List.mem_cons_of_mem _ ha) b (List.mem_cons_of_mem _ hb)
    unfold usortK
    rw [insU_mem (fun y hy => h x (List.mem_cons_self ..) y (List.mem_cons_of_mem _ ((ih y).mp hy))), ih, List.mem_cons]
theorem insU_sub {key : α → Int} {x : α} : ∀ {l : List α} {z}, z ∈ insU key x l → z = x ∨ z ∈ l
  | [], z, h => by simp [insU] at h; exact .inl h
  | y :: r, z, h => by
    unfold insU at h
    split at h
    · exact List.mem_cons.mp h
    · split at h
      · exact .inr h
      · rcases List.mem_cons.mp h with h | h
        · exact .inr (h ▸ List.mem_cons_self ..)
        · exact (insU_sub h).imp id (List.mem_cons_of_mem _)
theorem insU_pw (key : α → Int) (x : α) : ∀ l, l.Pairwise (fun x y => key x < key y) → (insU key x l).Pairwise fun x y => key x < key y
  | [], _ => List.pairwise_singleton ..
  | y :: r, h => by
    unfold insU
    obtain ⟨h1, h2⟩ := List.pairwise_cons.mp h
    split
    · rename_i hx
      exact List.pairwise_cons.mpr ⟨fun z hz => by
        rcases List.mem_cons.mp hz with rfl | hz
        · exact hx
        · exact Int.lt_trans hx (h1 z hz), h⟩
    · split
      · exact h
      · rename_i hx hy
        refine List.pairwise_cons.mpr ⟨fun z hz => ?_, insU_pw key x r h2⟩
        rcases insU_sub hz with rfl | hz
        · omega
        · exact h1 z hz
theorem usortK_pw (key : α → Int) : ∀ l, (usortK key l).Pairwise fun x y => key x < key y
  | [] => .nil
  | x :: r => insU_pw key x _ (usortK_pw key r)
theorem usortK_uniq {key : α → Int} {l m : List α} (hm : ∀ z, z ∈ m ↔ z ∈ l) (hs : m.Pairwise fun x y => key x < key y) (hi : ∀ x ∈ l, ∀ y ∈ l, key x = key y → x = y) : m = usortK key l := by
  have pw := usortK_pw key l
  have nd : ∀ {k : List α}, k.Pairwise (fun x y => key x < key y) → k.Nodup := fun h => h.imp fun q e => by subst e; exact absurd q (Int.lt_irrefl _)
  refine List.Perm.eq_of_pairwise (le := fun x y => key x < key y) (fun a b ha hb h1 h2 => absurd h1 (by omega)) hs pw ?_
  exact (List.perm_ext_iff_of_nodup (nd hs) (nd pw)).mpr fun z => (hm z).trans (usortK_mem hi z).symm
end

/-! ### whole numbers, tuples of them -/
def tupI : D → Option (List Int)
  | .tup xs => intsD xs
  | _ => none
def keyT : D → Int
  | .int i => i
  | .tup xs => match intsD xs with
    | some ns => TS.code 1024 ns
    | none => 0
  | _ => 0
def bdB (ns : List Int) : Bool := ns.all fun n => decide (0 ≤ n) && decide (n < 1024)
def tupsB (d : Nat) (ds : List D) : Bool := ds.all fun x => match tupI x with
  | some ns => decide (ns.length = d) && bdB ns
  | none => false
def lenT : List D → Nat
  | .tup xs :: _ => xs.length
  | _ => 0
theorem bdB_ok {ns : List Int} (h : bdB ns = true) : TS.Bd 1024 ns := fun k hk => by
  unfold bdB at h
  have := List.all_eq_true.mp h k hk
  simp only [Bool.and_eq_true, decide_eq_true_eq] at this
  exact this
theorem intsD_len : ∀ {ds : List D} {ns : List Int}, intsD ds = some ns → ds = ns.map D.int
  | [], _, h => by simp only [intsD] at h; cases h; rfl
  | d :: ds, _, h => by
    cases d with
    | int i =>
      simp only [intsD, Option.map_eq_some_iff] at h
      obtain ⟨l, h1, rfl⟩ := h
      rw [intsD_len h1]
      rfl
    | _ => simp only [intsD] at h; cases h
theorem tupI_eq {x : D} {ns : List Int} (h : tupI x = some ns) : x = .tup (ns.map D.int) := by
  cases x with
  | tup xs => rw [intsD_len (show intsD xs = some ns from h)]
  | _ => cases h
theorem intsD_map : ∀ ns : List Int, intsD (ns.map D.int) = some ns
  | [] => rfl
  | i :: r => by
    show (intsD (r.map D.int)).map _ = _
    rw [intsD_map r]
    rfl
theorem keyT_tup (ns : List Int) : keyT (.tup (ns.map D.int)) = TS.code 1024 ns := by
  show (match intsD (ns.map D.int) with
    | some ns => TS.code 1024 ns
    | none => 0) = _
  rw [intsD_map]
theorem code_inj {B : Int} : ∀ {r q : List Int}, r.length = q.length → TS.Bd B r → TS.Bd B q → TS.code B r = TS.code B q → r = q
  | [], [], _, _, _, _ => rfl
  | d :: r, e :: q, hl, hr, hq, h => by
    have hl' : r.length = q.length := Nat.succ.inj hl
    rcases Int.lt_trichotomy d e with c | c | c
    · exact absurd h (Int.ne_of_lt (TS.code_lt hl' hr.tail hq.tail c))
    · subst c
      have h' : d * B ^ r.length + TS.code B r = d * B ^ q.length + TS.code B q := h
      rw [hl'] at h'
      rw [code_inj hl' hr.tail hq.tail (by omega)]
    · exact absurd h.symm (Int.ne_of_lt (TS.code_lt hl'.symm hq.tail hr.tail c))
theorem tupsB_at {d : Nat} {ds : List D} (h : tupsB d ds = true) {x : D} (hx : x ∈ ds) : ∃ ns, x = .tup (ns.map D.int) ∧ ns.length = d ∧ TS.Bd 1024 ns := by
  have q := List.all_eq_true.mp h x hx
  split at q
  · rename_i ns hn
    simp only [Bool.and_eq_true, decide_eq_true_eq] at q
    exact ⟨ns, tupI_eq hn, q.1, bdB_ok q.2⟩
  · cases q
theorem tupsB_inj {d : Nat} {ds : List D} (h : tupsB d ds = true) : ∀ x ∈ ds, ∀ y ∈ ds, keyT x = keyT y → x = y := fun x hx y hy e => by
  obtain ⟨n1, rfl, l1, b1⟩ := tupsB_at h hx
  obtain ⟨n2, rfl, l2, b2⟩ := tupsB_at h hy
  rw [keyT_tup, keyT_tup] at e
  rw [code_inj (by omega) b1 b2 e]
theorem keyT_int (i : Int) : keyT (.int i) = i := rfl
theorem ints_inj {ns : List Int} : ∀ x ∈ ns.map D.int, ∀ y ∈ ns.map D.int, keyT x = keyT y → x = y := fun x hx y hy e => by
  obtain ⟨i, _, rfl⟩ := List.mem_map.mp hx
  obtain ⟨j, _, rfl⟩ := List.mem_map.mp hy
  rw [show i = j from e]
def gSort (S : Sto) : List D → R (List D)
  | [x] => match lstOf S x with
    | some ds => if (intsD ds).isSome = true then .ok (sortK keyT ds) S else if ds.length < 64 ∧ 1 ≤ lenT ds ∧ tupsB (lenT ds) ds = true then .ok (sortK keyT ds) S else .bad
    | none => .bad
  | _ => .bad
def lSort (a : DA) : DA := fun ρ S => (a ρ S).bind fun ds S1 => gSort S1 ds
section
variable {K : PySem.W.Frag} {m B : List Addr} {H : Hp}
theorem RDs.perm {vs ys : List V} (p : ys.Perm vs) : ∀ {ds : List D}, RDs K m B H ds vs → ∃ ds', ds'.Perm ds ∧ RDs K m B H ds' ys := by
  induction p with
  | nil => exact fun {ds} h => ⟨ds, .refl _, h⟩
  | cons x p ih =>
    intro ds h
    cases ds with
    | nil => unfold RDs at h; cases h
    | cons d ds =>
      unfold RDs at h
      obtain ⟨y, r, e, h1, h2⟩ := h
      cases e
      obtain ⟨ds', p', h'⟩ := ih h2
      exact ⟨d :: ds', p'.cons d, RDs.cons h1 h'⟩
  | swap x y l =>
    intro ds h
    cases ds with
    | nil => unfold RDs at h; cases h
    | cons d ds =>
      unfold RDs at h
      obtain ⟨y1, r, e, h1, h2⟩ := h
      cases e
      cases ds with
      | nil => unfold RDs at h2; cases h2
      | cons d2 ds =>
        unfold RDs at h2
        obtain ⟨y2, r2, e2, h3, h4⟩ := h2
        cases e2
        exact ⟨d2 :: d :: ds, .swap .., RDs.cons h3 (RDs.cons h1 h4)⟩
  | trans _ _ ih1 ih2 =>
    intro ds h
    obtain ⟨d1, p1, h1⟩ := ih2 h
    obtain ⟨d2, p2, h2⟩ := ih1 h1
    exact ⟨d2, p2.trans p1, h2⟩
theorem ints_rd : ∀ ns : List Int, RDs K m B H (ns.map D.int) (ns.map V.int)
  | [] => RDs.nil
  | i :: r => RDs.cons (RDi i) (ints_rd r)
theorem RD.tupI {ns : List Int} {v : V} (h : RD K m B H (.tup (ns.map D.int)) v) : TupI K H v ns := by
  unfold RD at h
  obtain ⟨a, vs, rfl, f, r⟩ := h
  refine ⟨a, rfl, ?_⟩
  rw [← intsD_ok r (intsD_map ns)]
  exact f.sq
theorem RDs.mem : ∀ {ds : List D} {vs : List V}, RDs K m B H ds vs → ∀ v ∈ vs, ∃ d ∈ ds, RD K m B H d v
  | [], _, h, v, hv => by unfold RDs at h; subst h; cases hv
  | d :: ds, _, h, v, hv => by
    unfold RDs at h
    obtain ⟨x, r, rfl, h1, h2⟩ := h
    rcases List.mem_cons.mp hv with rfl | hv
    · exact ⟨d, List.mem_cons_self .., h1⟩
    · obtain ⟨d', m', r'⟩ := RDs.mem h2 v hv
      exact ⟨d', List.mem_cons_of_mem _ m', r'⟩
theorem RDs.pw {d : Nat} : ∀ {ds : List D} {vs : List V}, (∀ x ∈ ds, ∃ ns : List Int, x = .tup (ns.map D.int) ∧ ns.length = d ∧ TS.Bd 1024 ns) → RDs K m B H ds vs → vs.Pairwise (fun x y => ∀ n k, TupI K H x n → TupI K H y k → TS.code 1024 n ≤ TS.code 1024 k) → ds.Pairwise fun x y => keyT x ≤ keyT y
  | [], _, _, _, _ => .nil
  | d :: ds, _, hb, h, q => by
    unfold RDs at h
    obtain ⟨x, r, rfl, h1, h2⟩ := h
    obtain ⟨q1, q2⟩ := List.pairwise_cons.mp q
    refine List.pairwise_cons.mpr ⟨fun e he => ?_, RDs.pw (fun x hx => hb x (List.mem_cons_of_mem _ hx)) h2 q2⟩
    obtain ⟨n1, rfl, _, _⟩ := hb d (List.mem_cons_self ..)
    obtain ⟨n2, rfl, _, _⟩ := hb e (List.mem_cons_of_mem _ he)
    obtain ⟨i, hi, e2⟩ := List.getElem_of_mem he
    obtain ⟨v, hv, rv⟩ := h2.get (show ds[i]? = some (.tup (n2.map D.int)) by rw [List.getElem?_eq_getElem hi, e2])
    rw [keyT_tup, keyT_tup]
    exact q1 v (List.mem_of_getElem? hv) _ _ h1.tupI rv.tupI
end
def rSortA (K : PySem.W.Frag) : List V → Hp → VK → Prop := fun vs H Q => rSortedI K vs H Q ∨ ∃ d : Nat, 1 ≤ d ∧ rSortU K d 1024 vs H Q
theorem cr_sortA {X : Cx} : CallR X (.builtin "sorted") (rSortA X.K) := cr_sortedI.or fun pins s σ H xs us Q I rs ⟨d, hd, q⟩ => cr_sortT hd pins s σ H xs us Q I rs q
section
variable {X : Cx} {pos p0 p1 p2 : Pos} {e : Expr} {t : DA}
theorem zl_sorted (hm : X.mg "sorted" = none) (ha : ZA X [e] t) (hg : Gl X "sorted" := by rfl) (he : starEach [e] X.env = (false, eval e X.env) :: starEach [] X.env := by rfl) : ZL X (.Call (.Name "sorted" p0) [e] [] pos) (lSort t) := fun W tk =>
  pe_weak (pe_callB cr_sortA hg hm (by decide +kernel) (ha W tk) (by decide) (by decide) he (by rfl)) fun σ H Q ⟨m, B, ρ, S, rs, e, p⟩ => tAr.takeL rs e p fun ds S1 m1 H1 vs g1 r1 e1 rds p1 => by
    match ds, rds, p1 with
    | [], _, p1 => exact p1.elim
    | _ :: _ :: _, _, p1 => exact p1.elim
    | [d], rds, p1 =>
      obtain ⟨v, rfl, rv⟩ := rds.one
      simp only [gSort] at p1
      split at p1
      · rename_i ds hd
        obtain ⟨a, us, rfl, sq, r⟩ := lstOf_ok r1 rv hd
        split at p1
        · rename_i hi
          obtain ⟨ns, hn⟩ := Option.isSome_iff_exists.mp hi
          have ed := intsD_len hn
          rw [intsD_ok r hn] at sq
          refine .inl ⟨a, ns, rfl, sq, fun ns' p hp hs hpn => ?_⟩
          have eq : ns'.map D.int = sortK keyT ds := by
            rw [ed]
            exact sortK_uniq (hp.map _) (List.pairwise_map.mpr hs) ints_inj
          rw [← eq] at p1
          exact p1.put r1 (ints_rd ns') hpn
        · split at p1
          · rename_i hc
            refine .inr ⟨lenT ds, hc.2.1, a, us, rfl, sq, by rw [← r.len]; exact hc.1, fun x hx => ?_, fun ys p hp hs hpn => ?_⟩
            · obtain ⟨y, hy, ry⟩ := r.mem x hx
              obtain ⟨ns, rfl, h1, h2⟩ := tupsB_at hc.2.2 hy
              exact ⟨ns, ry.tupI, h1, h2⟩
            · obtain ⟨ds', q1, q2⟩ := r.perm hp
              have eq : ds' = sortK keyT ds := sortK_uniq q1 (RDs.pw (fun x hx => tupsB_at hc.2.2 (q1.mem_iff.mp hx)) q2 hs) (tupsB_inj hc.2.2)
              rw [← eq] at p1
              exact p1.put r1 q2 hpn
          · exact p1.elim
      · exact p1.elim

/-! ### sorted(set(xs)) -/
def gSortSet (S : Sto) : List D → R (List D)
  | [x] => match lstOf S x with
    | some ds => if ds.length < 64 ∧ ((intsD ds).isSome = true ∨ 1 ≤ lenT ds ∧ tupsB (lenT ds) ds = true) then .ok (usortK keyT ds) S else .bad
    | none => .bad
  | _ => .bad
def lSortSet (a : DA) : DA := fun ρ S => (a ρ S).bind fun ds S1 => gSortSet S1 ds
/-- set(xs), whole numbers -/
def rSetI (K : PySem.W.Frag) (w : World) : List V → Hp → VK → Prop := fun xs H Q => ∃ (l : Addr) (ns : List Int), xs = [V.ref l] ∧ SqL K H l (ns.map V.int) ∧ ns.length < 64 ∧ ∀ a c, H a = none → c ≤ ns.length → Q (.ref a) (upd H a (SetO w a (fun j => decide (j ∈ ns)) c))
theorem cr_setI (hc : X.calm = true) : CallR X (.type "set") (rSetI X.K X.w) := by
  intro pins s σ H xs us Q I r h
  obtain ⟨l, ns, rfl, hl, hf, q⟩ := h
  rw [Vals.ref1 r]
  obtain ⟨its, rv, pl, hz⟩ := I.list hl
  have hn : H s.heap.objs.size = none := I.hok.fresh (Nat.le_refl _)
  refine set_ofInts (P := X.prog) (w := X.w) (ns := ns) (I.ok.hd hc) pl.isList (by simpa using rv.ints) (by unfold scanBound; omega) fun s' hs => ?_
  obtain ⟨h', tk, c, rfl, R, hle, k⟩ := hs
  exact ⟨.ref s.heap.objs.size, upd H s.heap.objs.size (SetO X.w s.heap.objs.size (fun j => decide (j ∈ ns)) c), I.laid (t' := tk) k (Nat.le_refl _) (setO_new R), rfl, q _ c hn hle⟩
theorem zl_sortSet (hc : X.calm = true) (hu : X.A.units + 64 < cLine) (hm : X.mg "sorted" = none) (hm2 : X.mg "set" = none) (ha : ZA X [e] t) (hg : Gl X "sorted" := by rfl) (hg2 : Gl X "set" := by rfl) (he : starEach [e] X.env = (false, eval e X.env) :: starEach [] X.env := by rfl)
    (he2 : starEach [.Call (.Name "set" p1) [e] [] p2] X.env = (false, eval (.Call (.Name "set" p1) [e] [] p2) X.env) :: starEach [] X.env := by rfl) : ZL X (.Call (.Name "sorted" p0) [.Call (.Name "set" p1) [e] [] p2] [] pos) (lSortSet t) := fun W tk =>
  pe_weak (pe_callB ((cr_sortedSet hc).or (cr_sortedT hc)) hg hm (by decide +kernel) (pa_cons (pe_callTy ((cr_setI hc).or (cr_setOfT hc hu)) hg2 hm2 (by decide +kernel) (ha W tk) (by decide) (by decide) he (by rfl)) pa_nil he2) (by decide) (by decide) he2 (by rfl)) fun σ H Q ⟨m, B, ρ, S, rs, e, p⟩ => tAr.takeL rs e p fun ds S1 m1 H1 vs g1 r1 e1 rds p1 => by
    match ds, rds, p1 with
    | [], _, p1 => exact p1.elim
    | _ :: _ :: _, _, p1 => exact p1.elim
    | [d], rds, p1 =>
      obtain ⟨v, rfl, rv⟩ := rds.one
      simp only [gSortSet] at p1
      split at p1
      · rename_i ds hd
        obtain ⟨a, us, rfl, sq, r⟩ := lstOf_ok r1 rv hd
        split at p1
        · rename_i hk
          obtain ⟨h64, hk⟩ := hk
          by_cases hi : (intsD ds).isSome = true
          · obtain ⟨ns, hn⟩ := Option.isSome_iff_exists.mp hi
            have ed := intsD_len hn
            rw [intsD_ok r hn] at sq
            have hln : ns.length < 64 := by rw [ed, List.length_map] at h64; exact h64
            refine .inl ⟨a, ns, rfl, sq, hln, fun b c hb hcn => ?_⟩
            refine .inl ⟨b, _, c, rfl, upd_same, by omega, fun ks p hs hmem hlen hp => ?_⟩
            have eq : ks.map D.int = usortK keyT ds := by
              rw [ed]
              refine usortK_uniq (fun z => ?_) (List.pairwise_map.mpr hs) ints_inj
              constructor
              · intro hz
                obtain ⟨i, hi, rfl⟩ := List.mem_map.mp hz
                exact List.mem_map.mpr ⟨i, of_decide_eq_true ((hmem i).mp hi), rfl⟩
              · intro hz
                obtain ⟨i, hi, rfl⟩ := List.mem_map.mp hz
                exact List.mem_map.mpr ⟨i, (hmem i).mpr (decide_eq_true hi), rfl⟩
            rw [← eq] at p1
            obtain ⟨g2, r2⟩ := r1.new (u := SetO X.w b (fun j => decide (j ∈ ns)) c) hb
            exact PostL.put (p1.ge g2) r2 (ints_rd ks) hp
          · obtain ⟨hd1, hd2⟩ := hk.resolve_left hi
            have hall : ∀ x ∈ ds, ∃ ns : List Int, x = .tup (ns.map D.int) ∧ ns.length = lenT ds ∧ TS.Bd 1024 ns := fun x hx => tupsB_at hd2 hx
            have hks : ∃ ks : List (Addr × List Int), us = ks.map (fun p => V.ref p.1) ∧ (∀ p ∈ ks, SqT X.K H1 p.1 (p.2.map V.int)) ∧ ds = ks.map (fun p => D.tup (p.2.map D.int)) ∧ ∀ p ∈ ks, RD X.K m1 B H1 (.tup (p.2.map D.int)) (.ref p.1) := by
              clear p1 hd hd2 hi hd1 hk sq h64
              generalize lenT ds = dd at hall
              induction ds generalizing us with
              | nil => unfold RDs at r; exact ⟨[], r, fun p hp => (by cases hp), rfl, fun p hp => (by cases hp)⟩
              | cons x ds ih =>
                unfold RDs at r
                obtain ⟨v, rr, rfl, h1, h2⟩ := r
                obtain ⟨ns, rfl, _, _⟩ := hall x (List.mem_cons_self ..)
                obtain ⟨ks, q1, q2, q3, q4⟩ := ih rr h2 fun y hy => hall y (List.mem_cons_of_mem _ hy)
                obtain ⟨b, rfl, hb⟩ := h1.tupI
                refine ⟨(b, ns) :: ks, by rw [q1]; rfl, fun p hp => ?_, by rw [q3]; rfl, fun p hp => ?_⟩
                · rcases List.mem_cons.mp hp with rfl | hp
                  · exact hb
                  · exact q2 p hp
                · rcases List.mem_cons.mp hp with rfl | hp
                  · exact h1
                  · exact q4 p hp
            obtain ⟨ks, q1, q2, q3, q4⟩ := hks
            subst q1
            have hbd : ∀ p ∈ ks, p.2.length = lenT ds ∧ TS.Bd 1024 p.2 := fun p hp => by
              obtain ⟨ns, e1, e2, e3⟩ := hall (.tup (p.2.map D.int)) (by rw [q3]; exact List.mem_map.mpr ⟨p, hp, rfl⟩)
              have e4 : p.2 = ns := by
                have := congrArg tupI e1
                simp only [tupI, intsD_map] at this
                exact Option.some.inj this
              rw [e4]
              exact ⟨e2, e3⟩
            refine .inr ⟨a, ks, rfl, sq, q2, by rw [q3, List.length_map] at h64; exact h64, fun b L hb hL1 hL2 => ?_⟩
            obtain ⟨g2, r2⟩ := r1.new (u := SetTO X.prog X.w b L) hb
            refine .inr ⟨b, L, lenT ds, 1024, rfl, upd_same, fun p hp => ?_, hd1, fun p hp => hbd p (hL1 p hp), fun L' p hpm hnd hlen hpw hp => ?_⟩
            · have := (q4 p (hL1 p hp)).mono g2.tr
              obtain ⟨b', e, h'⟩ := this.tupI
              cases e
              exact h'
            · have hsub : ∀ q ∈ L', q ∈ ks := fun q hq => hL1 q (hpm.mem_iff.mp hq)
              have eq : L'.map (fun q => D.tup (q.2.map D.int)) = usortK keyT ds := by
                refine usortK_uniq (fun z => ?_) ?_ (tupsB_inj hd2)
                · rw [q3]
                  constructor
                  · intro hz
                    obtain ⟨q, hq, rfl⟩ := List.mem_map.mp hz
                    exact List.mem_map.mpr ⟨q, hsub q hq, rfl⟩
                  · intro hz
                    obtain ⟨q, hq, rfl⟩ := List.mem_map.mp hz
                    obtain ⟨q', hq', e⟩ := List.mem_map.mp (hL2 q hq)
                    exact List.mem_map.mpr ⟨q', hpm.mem_iff.mpr hq', by rw [e]⟩
                · rw [List.pairwise_map]
                  have hnd' : L'.Pairwise fun q r => q.2 ≠ r.2 := List.pairwise_map.mp hnd
                  refine (hpw.and hnd').imp_of_mem fun {q r} hq hr ⟨h1, h2⟩ => ?_
                  rw [keyT_tup, keyT_tup]
                  have b1 := hbd q (hsub q hq)
                  have b2 := hbd r (hsub r hr)
                  rcases Int.lt_or_eq_of_le h1 with c | c
                  · exact c
                  · exact absurd (code_inj (by omega) b1.2 b2.2 c) h2
              rw [← eq] at p1
              refine PostL.put (p1.ge g2) r2 ?_ hp
              clear eq hpm hnd hlen hpw p1
              induction L' with
              | nil => exact RDs.nil
              | cons q L' ih => exact RDs.cons ((q4 q (hsub q (List.mem_cons_self ..))).mono g2.tr) (ih fun r hr => hsub r (List.mem_cons_of_mem _ hr))
        · exact p1.elim
      · exact p1.elim
end
end Z
namespace Z
open PySem L2

theorem hu0 {k : Nat} {A : Around} (r : Room k A) : A.units < cLine := by
  have := r.un
  omega
theorem hu1 {k : Nat} {A : Around} (r : Room k A) : A.units + 1 < cLine := by
  have := r.un
  omega
/-! ### dicts -/
def dKey : D → Option Key
  | .int i => some (.inl i)
  | .str s => some (.inr s)
  | _ => none
section
variable {κ α : Type} [DecidableEq κ]
def valA (kvs : List (κ × α)) (k : κ) : Option α := (kvs.find? fun kv => decide (kv.1 = k)).map (·.2)
def putA (kvs : List (κ × α)) (k : κ) (d : α) : List (κ × α) := if (kvs.any fun kv => decide (kv.1 = k)) = true then kvs.map (fun kv => if kv.1 = k then (kv.1, d) else kv) else kvs ++ [(k, d)]
variable {K : PySem.W.Frag} {m B : List Addr} {H : Hp}
theorem RFs.val (k : κ) : ∀ {kvs : List (κ × D)} {vs : List (κ × V)}, RFs K m B H kvs vs → (∀ d, valA kvs k = some d → ∃ v, valV vs k = some v ∧ RD K m B H d v) ∧ (valA kvs k = none → valV vs k = none)
  | [], _, h => by
    have h' : _ = _ := h
    subst h'
    exact ⟨fun d e => by simp [valA] at e, fun _ => rfl⟩
  | p :: kvs, _, ⟨x, r, e, h1, h2⟩ => by
    subst e
    have ih := RFs.val k h2
    by_cases hp : p.1 = k
    · refine ⟨fun d e => ⟨x, by simp [valV, hp], ?_⟩, fun e => by simp [valA, hp] at e⟩
      simp [valA, hp] at e
      subst e
      exact h1
    · have e1 : valA (p :: kvs) k = valA kvs k := by simp [valA, hp]
      have e2 : valV ((p.1, x) :: r) k = valV r k := by simp [valV, hp]
      rw [e1, e2]
      exact ih
theorem RFs.keys : ∀ {kvs : List (κ × D)} {vs : List (κ × V)}, RFs K m B H kvs vs → kvs.map (·.1) = vs.map (·.1)
  | [], _, h => by
    have h' : _ = _ := h
    subst h'
    rfl
  | p :: kvs, _, ⟨x, r, e, h1, h2⟩ => by
    subst e
    simp [RFs.keys h2]
theorem RFs.len1 {kvs : List (κ × D)} {vs : List (κ × V)} (h : RFs K m B H kvs vs) : kvs.length = vs.length := by
  have := congrArg List.length h.keys
  simpa using this
theorem any_keys {β : Type} (k : κ) : ∀ (l : List (κ × α)), (l.any fun kv => decide (kv.1 = k)) = (l.map (·.1)).any fun x => decide (x = k)
  | [] => rfl
  | p :: l => by rw [List.any_cons, List.map_cons, List.any_cons, any_keys (β := β) k l]
theorem RFs.app {d : D} {v : V} {k : κ} (hd : RD K m B H d v) : ∀ {kvs : List (κ × D)} {vs : List (κ × V)}, RFs K m B H kvs vs → RFs K m B H (kvs ++ [(k, d)]) (vs ++ [(k, v)])
  | [], _, h => by
    have h' : _ = _ := h
    subst h'
    exact ⟨v, [], rfl, hd, rfl⟩
  | p :: kvs, _, ⟨x, r, e, h1, h2⟩ => by
    subst e
    exact ⟨x, _, rfl, h1, RFs.app hd h2⟩
theorem RFs.over {d : D} {v : V} {k : κ} (hd : RD K m B H d v) : ∀ {kvs : List (κ × D)} {vs : List (κ × V)}, RFs K m B H kvs vs → RFs K m B H (kvs.map fun kv => if kv.1 = k then (kv.1, d) else kv) (vs.map fun kv => if kv.1 = k then (kv.1, v) else kv)
  | [], _, h => by
    have h' : _ = _ := h
    subst h'
    rfl
  | p :: kvs, _, ⟨x, r, e, h1, h2⟩ => by
    subst e
    rw [List.map_cons, List.map_cons]
    by_cases hp : p.1 = k
    · rw [if_pos hp, if_pos (show (p.1, x).1 = k from hp)]
      exact ⟨v, _, rfl, hd, RFs.over hd h2⟩
    · rw [if_neg hp, if_neg (show ¬ (p.1, x).1 = k from hp)]
      exact ⟨x, _, rfl, h1, RFs.over hd h2⟩
theorem RFs.putA {d : D} {v : V} {k : κ} (hd : RD K m B H d v) {kvs : List (κ × D)} {vs : List (κ × V)} (h : RFs K m B H kvs vs) : RFs K m B H (Z.putA kvs k d) (putK vs k v) := by
  unfold Z.putA putK
  rw [any_keys (β := Unit) k kvs, any_keys (β := Unit) k vs, h.keys]
  split
  · exact RFs.over hd h
  · exact RFs.app hd h
end
theorem dKey_ok {K : PySem.W.Frag} {m B : List Addr} {H : Hp} {d : D} {v : V} {k : Key} (rd : RD K m B H d v) (h : dKey d = some k) : v = kV k := by
  cases d <;> try (cases h; done)
  · unfold RD at rd
    cases h
    exact rd
  · unfold RD at rd
    cases h
    exact rd
/-- {} -/
def eDct : DE := fun _ S => .ok (.ref S.length) (S ++ [.dct []])
/-- d[k] -/
def fDGet : D → D → Sto → R D
  | .ref n, y, S => match S[n]?, dKey y with
    | some (.dct kvs), some k => match valA kvs k with
      | some d => .ok d S
      | none => .bad
    | _, _ => .bad
  | _, _, _ => .bad
/-- k in d -/
def fDIn (neg : Bool) : D → D → Sto → R D
  | y, .ref n, S => match S[n]?, dKey y with
    | some (.dct kvs), some k => .ok (.bl (if neg = true then !(valA kvs k).isSome else (valA kvs k).isSome)) S
    | _, _ => .bad
  | _, _, _ => .bad
/-- d[k] = x -/
def sDPut' (a o i : DE) : DS := fun ρ S => (a ρ S).to ρ fun x S1 => (o ρ S1).to ρ fun d S2 => (i ρ S2).to ρ fun y S3 => match d with
  | .ref n => match S3[n]?, dKey y with
    | some (.dct kvs), some k => if kvs.length < 16777216 then .nx ρ (S3.set n (.dct (putA kvs k x))) else .bad
    | _, _ => .bad
  | _ => .bad
def isDc (S : Sto) (n : Nat) : Bool := match S[n]? with
  | some (.dct _) => true
  | _ => false
def gSetd (n : Nat) (y z : D) (S : Sto) : R D := match S[n]?, dKey y with
  | some (.dct kvs), some k => if kvs.length < 16777216 then match valA kvs k with
    | some d => .ok d S
    | none => .ok z (S.set n (.dct (putA kvs k z)))
    else .bad
  | _, _ => .bad
def eSetd (a b c : DE) : DE := fun ρ S => (a ρ S).bind fun x S1 => match x with
  | .ref n => if isDc S1 n = true then (b ρ S1).bind fun y S2 => (c ρ S2).bind fun z S3 => gSetd n y z S3 else .bad
  | _ => .bad
section
variable {X : Cx} {pos p0 apos : Pos} {a b c o i : Expr} {da db dc dobj di : DE}
theorem ze_dct : ZE X (.Dict [] [] pos) eDct := fun W tk => pe_weak pe_dnewK fun σ H Q ⟨m, B, ρ, S, rs, e, p⟩ => fun q hq => by
  obtain ⟨g, r⟩ := rs.new (u := .dK []) hq
  have r2 := (rs.ban (u := .dK []) hq).own (o := .dct []) (rs.notB hq) ⟨[], upd_same, rfl⟩
  refine p (m ++ [q]) _ (g.own hq) r2 _ ?_
  unfold RD
  exact ⟨q, rfl, by rw [List.getElem?_append_right (by rw [rs.len]; exact Nat.le_refl _), rs.len]; simp⟩
theorem ze_dget (hu : X.A.units + 1 < cLine) (ha : ZE X a da) (hb : ZE X b db) (hs : NoSl b := by exact fun _ _ => rfl) : ZE X (.Subscript a b pos) (e2 fDGet da db) := fun W tk => pe_weak (pe_dget hu (ha W tk) (hb W tk) hs) fun σ H Q ⟨m, B, ρ, S, rs, e, p⟩ =>
  tE.take (f := fun x S1 => (db ρ S1).bind fun y S2 => fDGet x y S2) rs e p fun d S1 m1 H1 v g1 r1 e1 rd p1 => tE.take (f := fun y S2 => fDGet d y S2) r1 e1 p1 fun y S2 m2 H2 u g2 r2 e2 ry p2 => by
    cases d <;> try exact p2.elim
    rename_i n
    have rd2 := rd.mono g2.tr
    unfold RD at rd2
    obtain ⟨q, rfl, hq⟩ := rd2
    simp only [fDGet] at p2
    split at p2
    · rename_i kvs k hn hk
      split at p2
      · rename_i x hx
        obtain ⟨vs, ev, rv⟩ := r2.ob n q _ hq hn
        obtain ⟨w, hw, rw'⟩ := (rv.val k).1 x hx
        refine ⟨q, w, rfl, ?_, p2.now r2 w rw'⟩
        rw [dKey_ok ry hk, ← hw]
        exact DGet.k ev
      · exact p2.elim
    · exact p2.elim
theorem pc_dinD {neg : Bool} {op : CmpOp} {t : TE} (hp : ∀ {ty td : TE}, PE X b ty → PE X a td → PC X op b a (fun σ H Q => ty σ H fun y H1 => td σ H1 fun x H2 => ∃ a o, x = .ref a ∧ DGet H2 a y o ∧ Q (.bl (if neg = true then !o.isSome else o.isSome)) H2)) (hb : ZE X b db) (ha : ZE X a da) (hm : behindInMarks op a = false) :
    ZE X (.Compare b [op] [a] pos) (e2 (fDIn neg) db da) := fun W tk => pe_weak (pe_cmp (hp (hb W tk) (ha W tk)) hm) fun σ H Q ⟨m, B, ρ, S, rs, e, p⟩ =>
  tE.take (f := fun x S1 => (da ρ S1).bind fun y S2 => fDIn neg x y S2) rs e p fun y S1 m1 H1 u g1 r1 e1 ry p1 => tE.take (f := fun x S2 => fDIn neg y x S2) r1 e1 p1 fun d S2 m2 H2 v g2 r2 e2 rd p2 => by
    cases d <;> try (cases y <;> exact p2.elim)
    rename_i n
    unfold RD at rd
    obtain ⟨q, rfl, hq⟩ := rd
    simp only [fDIn] at p2
    split at p2
    · rename_i kvs k hn hk
      obtain ⟨vs, ev, rv⟩ := r2.ob n q _ hq hn
      have hv := rv.val k
      refine ⟨q, valV vs k, rfl, by rw [dKey_ok (ry.mono g2.tr) hk]; exact DGet.k ev, ?_⟩
      have es : (valV vs k).isSome = (valA kvs k).isSome := by
        cases h : valA kvs k with
        | none => rw [hv.2 h]; rfl
        | some d => obtain ⟨w, hw, _⟩ := hv.1 d h; rw [hw]; rfl
      rw [es]
      exact p2.now r2 _ (RDb _)
    · exact p2.elim
theorem ze_din (hu : X.A.units + 1 < cLine) (hb : ZE X b db) (ha : ZE X a da) (hm : behindInMarks .In a = false := by rfl) : ZE X (.Compare b [.In] [a] pos) (e2 (fDIn false) db da) := pc_dinD (t := fun _ _ _ => True) (fun h1 h2 => pc_din hu h1 h2) hb ha hm
theorem ze_dnotin (hu : X.A.units + 1 < cLine) (hb : ZE X b db) (ha : ZE X a da) (hm : behindInMarks .NotIn a = false := by rfl) : ZE X (.Compare b [.NotIn] [a] pos) (e2 (fDIn true) db da) := pc_dinD (t := fun _ _ _ => True) (fun h1 h2 => pc_dnotin hu h1 h2) hb ha hm
theorem zs_dput {p1 : Pos} (hu : X.A.units + 1 < cLine) (ha : ZE X a da) (ho : ZE X o dobj) (hi : ZE X i di) (hs : swapsWith a (some (.Subscript o i p1)) pos.line X.env = pure false := by rfl) : ZS X (.Assign [.Subscript o i p1] a pos) (sDPut' da dobj di) := fun W tk =>
  ps_weak (ps_dput hu (ho W tk) (hi W tk) (ha W tk) hs) fun E σ H ⟨m, B, ρ, S, rs, e, p⟩ => tE.takeS rs e p fun x S1 m1 H1 v g1 r1 e1 rx p1 => tE.takeS r1 e1 p1 fun d S2 m2 H2 u g2 r2 e2 rd p2 => tE.takeS r2 e2 p2 fun y S3 m3 H3 w g3 r3 e3 ry p3 => by
    cases d <;> try exact p3.elim
    rename_i n
    have rd2 := rd.mono g3.tr
    unfold RD at rd2
    obtain ⟨q, rfl, hq⟩ := rd2
    simp only at p3
    split at p3
    · rename_i kvs k hn hk
      split at p3
      · rename_i hl
        obtain ⟨vs, ev, rv⟩ := r3.ob n q _ hq hn
        obtain ⟨g4, r4⟩ := r3.put (u := .dK (putK vs k v)) (o := .dct (putA kvs k x)) hq fun H' g h' => ⟨_, h', RFs.putA ((rx.mono (g2.trans g3).tr).mono g.tr) (RFs.mono g.tr _ _ rv)⟩
        refine ⟨q, _, rfl, by rw [dKey_ok ry hk]; exact DPut.k ev (by rw [← rv.len1, sizeLine_eq]; exact hl), ?_⟩
        exact p3 m3 _ σ g4 r4 (e3.mono g4.tr)
      · exact p3.elim
    · exact p3.elim
theorem ze_setd (ho : ZE X o dobj) (hb : ZE X b db) (hc : ZE X c dc) (hba : attributeBase o "setdefault" X.env (eval o X.env) = eval o X.env := by rfl)
    (hfew : ((backTo pos (starEach [b, c] X.env)).all (fun x => !x.1) && (backToKw pos (keywordEach [] X.env)).all (fun x => x.1.isSome) && decide (([b, c] : List Expr).length + ([] : List Keyword).length + (if ([] : List Keyword).isEmpty then 0 else 1) < 30)) = true := by rfl)
    (hl : (apos.endLine == pos.line) = true := by rfl) (ht : backTo pos (starEach [b, c] X.env) = [(false, eval b X.env), (false, eval c X.env)] := by rfl) : ZE X (.Call (.Attribute o "setdefault" apos) [b, c] [] pos) (eSetd dobj db dc) := fun W tk =>
  pe_weak (pe_dsetd (ho W tk) (hb W tk) (hc W tk) ⟨hba, hfew, hl, ht⟩) fun σ H Q ⟨m, B, ρ, S, rs, e, p⟩ => tE.takeA rs e p fun d S1 m1 H1 v g1 r1 e1 rd p1 => by
    cases d <;> try exact p1.elim
    rename_i n
    have rd' := rd
    unfold RD at rd'
    obtain ⟨q, rfl, hq⟩ := rd'
    simp only at p1
    split at p1
    · rename_i hd
      unfold isDc at hd
      split at hd
      · rename_i kvs0 hn0
        obtain ⟨vs0, ev0, _⟩ := r1.ob n q _ hq hn0
        refine ⟨q, rfl, .inl ⟨vs0, .inl ev0⟩, tE.takeA r1 e1 p1 fun y S2 m2 H2 u g2 r2 e2 ry p2 => tE.takeA r2 e2 p2 fun z S3 m3 H3 w g3 r3 e3 rz p3 => ?_⟩
        have rd3 := rd.mono (g2.trans g3).tr
        unfold RD at rd3
        obtain ⟨q', eq', hq3⟩ := rd3
        cases eq'
        simp only [gSetd] at p3
        split at p3
        · rename_i kvs k hn hk
          split at p3
          · rename_i hlen
            obtain ⟨vs, ev, rv⟩ := r3.ob n q _ hq3 hn
            have hv := rv.val k
            refine ⟨vs, k, ev, dKey_ok (ry.mono g3.tr) hk, by rw [← rv.len1, sizeLine_eq]; exact hlen, fun x hx => ?_, fun hx => ?_⟩
            · cases h : valA kvs k with
              | none => rw [hv.2 h] at hx; cases hx
              | some d =>
                rw [h] at p3
                obtain ⟨x', hx', rx'⟩ := hv.1 d h
                rw [hx] at hx'
                cases hx'
                exact p3.now r3 x rx'
            · cases h : valA kvs k with
              | some d => obtain ⟨x', hx', _⟩ := hv.1 d h; rw [hx] at hx'; cases hx'
              | none =>
                rw [h] at p3
                obtain ⟨g4, r4⟩ := r3.put (u := .dK (putK vs k w)) (o := .dct (putA kvs k z)) hq3 fun H' g h' => ⟨_, h', RFs.putA (rz.mono g.tr) (RFs.mono g.tr _ _ rv)⟩
                exact p3 m3 _ g4 r4 w (rz.mono g4.tr)
          · exact p3.elim
        · exact p3.elim
      · cases hd
    · exact p1.elim
end
end Z
namespace Z
open PySem L2
/-! ### a loop as a fold -/
theorem forI_fold {α β : Type} {tg : Tg} {chk : Sto → Prop} {b : DS} (emb : α → D) (P : β → Env → Sto → Prop) (g : β → α → β) : ∀ (as : List α) (b0 : β) (ρ : Env) (S : Sto), P b0 ρ S →
    (∀ a ∈ as, ∀ x ρ S, P x ρ S → ∃ ρ1, Tg.asg S tg (emb a) ρ = some ρ1 ∧ ∃ ρ' S', (b ρ1 S = .nx ρ' S' ∨ b ρ1 S = .ct ρ' S') ∧ chk S' ∧ P (g x a) ρ' S') → ∃ ρ' S', forI tg b chk (as.map emb) ρ S = .nx ρ' S' ∧ P (as.foldl g b0) ρ' S'
  | [], b0, ρ, S, h, _ => ⟨ρ, S, rfl, h⟩
  | a :: as, b0, ρ, S, h, step => by
    obtain ⟨ρ1, h1, ρ', S', h2, h3, h4⟩ := step a (List.mem_cons_self ..) b0 ρ S h
    obtain ⟨ρ2, S2, h5, h6⟩ := forI_fold emb P g as (g b0 a) ρ' S' h4 fun y hy => step y (List.mem_cons_of_mem _ hy)
    refine ⟨ρ2, S2, ?_, h6⟩
    rw [List.map_cons]
    rcases h2 with h2 | h2 <;> simp [forI, h1, h2, h3, h5]
theorem iRow_map0 (n : Nat) : iRow 0 n = (List.range n).map fun i : Nat => D.int (i : Nat) := by simp [iRow]
theorem iseq_lv {r : DA} {ρ : Env} {S S' : Sto} {ds : List D} (h : r ρ S = .ok ds S') : iSeq (eLV r) ρ S = .ok (ds, fun _ => True) S' := by simp [iSeq, eLV, h]
theorem forI_idx {tg : Tg} {chk : Sto → Prop} {b : DS} (P : Nat → Env → Sto → Prop) (ds : List D) (ρ : Env) (S : Sto) (h0 : P 0 ρ S)
    (step : ∀ i d, ds[i]? = some d → ∀ ρ S, P i ρ S → ∃ ρ1, Tg.asg S tg d ρ = some ρ1 ∧ ∃ ρ' S', (b ρ1 S = .nx ρ' S' ∨ b ρ1 S = .ct ρ' S') ∧ chk S' ∧ P (i + 1) ρ' S') : ∃ ρ' S', forI tg b chk ds ρ S = .nx ρ' S' ∧ P ds.length ρ' S' := by
  have main : ∀ (r : List D) (j : Nat) (ρ : Env) (S : Sto), ds.drop j = r → j ≤ ds.length → P j ρ S → ∃ ρ' S', forI tg b chk r ρ S = .nx ρ' S' ∧ P ds.length ρ' S' := by
    intro r
    induction r with
    | nil =>
      intro j ρ S hj hl h
      have : ds.length ≤ j := List.drop_eq_nil_iff.mp hj
      have e : j = ds.length := by omega
      subst e
      exact ⟨ρ, S, rfl, h⟩
    | cons d r ih =>
      intro j ρ S hj hl h
      have hd : ds[j]? = some d := by
        have := congrArg (fun l => l[0]?) hj
        simpa using this
      have hl2 : j < ds.length := (List.getElem?_eq_some_iff.mp hd).1
      have hr : ds.drop (j + 1) = r := by
        have := congrArg List.tail hj
        simpa using this
      obtain ⟨ρ1, e1, ρ', S', e2, e3, e4⟩ := step j d hd ρ S h
      obtain ⟨ρ2, S2, e5, e6⟩ := ih (j + 1) ρ' S' hr (by omega) e4
      refine ⟨ρ2, S2, ?_, e6⟩
      rcases e2 with e2 | e2 <;> simp [forI, e1, e2, e3, e5]
  exact main ds 0 ρ S (by simp) (by omega) h0
theorem drop_app {j q : Nat} {e : DE} {ρ : Env} {S S1 : Sto} {x : D} {ds ds0 : List D} (hj : eV j ρ S = .ok (.ref q) S) (hl : S[q]? = some (.lst ds0)) (he : e ρ S = .ok x S1) (hq : S1[q]? = some (.lst ds)) (hn : ds.length < 16777216) : sDrop (eBM fApp (eV j) (aC e aN)) ρ S = .nx ρ (S1.set q (.lst (ds ++ [x]))) := by
  simp [sDrop, eBM, hj, isL, hl, aC, aN, he, fApp, hq, hn]
theorem drop_ext {j q : Nat} {r : DA} {ρ : Env} {S S1 : Sto} {es ds ds0 : List D} (hj : eV j ρ S = .ok (.ref q) S) (hl : S[q]? = some (.lst ds0)) (he : r ρ S = .ok es S1) (hq : S1[q]? = some (.lst ds)) (hn : ds.length + es.length ≤ 16777216) : sDrop (eBM fExt (eV j) (aC (eLV r) aN)) ρ S = .nx ρ (S1.set q (.lst (ds ++ es))) := by
  simp [sDrop, eBM, hj, isL, hl, aC, aN, eLV, he, fExt, lstH, hq, hn]
/-- a comprehension whose turns change the store -/
theorem lcI_state {tg : Tg} {chk : Sto → Prop} {e : DE} {ρ0 : Env} (P : Sto → Prop) (Q : D → D → Prop) (hc : ∀ S, P S → chk S) : ∀ (ds : List D) (S : Sto), P S → (∀ d ∈ ds, ∀ S, P S → ∃ ρ1, Tg.asg S tg d ρ0 = some ρ1 ∧ ∃ y S', e ρ1 S = .ok y S' ∧ P S' ∧ Q d y) →
    ∃ ys S', lcI tg chk tYes e ρ0 ds S = .ok ys S' ∧ P S' ∧ ys.length = ds.length ∧ ∀ (i : Nat) d y, ds[i]? = some d → ys[i]? = some y → Q d y
  | [], S, h, _ => ⟨[], S, rfl, h, rfl, fun i d y h => by simp at h⟩
  | d :: ds, S, h, step => by
    obtain ⟨ρ1, e1, y, S', e2, e3, e4⟩ := step d (List.mem_cons_self ..) S h
    obtain ⟨ys, S2, h1, h2, h3, h4⟩ := lcI_state P Q hc ds S' e3 fun x hx => step x (List.mem_cons_of_mem _ hx)
    refine ⟨y :: ys, S2, ?_, h2, by simp [h3], ?_⟩
    · have := hc S' e3
      simp [lcI, e1, tYes, e2, R.safe, this, h1]
    · intro i a b ha hb
      cases i with
      | zero =>
        simp at ha hb
        subst ha hb
        exact e4
      | succ i => exact h4 i a b (by simpa using ha) (by simpa using hb)
theorem cutA_hi {α : Type} (xs : List α) (v : Nat) : cutA xs none (some (v : Int)) = xs.take v := by
  unfold cutA
  rw [HT.sIx_nat]
  show (xs.drop 0).take (min v xs.length - 0) = _
  rw [List.drop_zero, Nat.sub_zero]
  by_cases h : v ≤ xs.length
  · rw [Nat.min_eq_left h]
  · rw [Nat.min_eq_right (by omega), List.take_length, List.take_of_length_le (by omega)]
theorem cutA_lo {α : Type} (xs : List α) (v : Nat) : cutA xs (some (v : Int)) none = xs.drop v := by
  unfold cutA
  rw [HT.sIx_nat]
  show (xs.drop (min v xs.length)).take (xs.length - min v xs.length) = _
  by_cases h : v ≤ xs.length
  · rw [Nat.min_eq_left h, List.take_of_length_le (by simp)]
  · rw [Nat.min_eq_right (by omega), List.drop_length, List.drop_of_length_le (by omega)]
    simp
/-- one place of a row changed -/
def upd (xs : List D) (i : Nat) (y : D) : List D := xs.take i ++ y :: xs.drop (i + 1)
theorem upd_len {xs : List D} {i : Nat} (y : D) (h : i < xs.length) : (upd xs i y).length = xs.length := by
  simp [upd]
  omega
theorem upd_at {xs : List D} {i : Nat} (y : D) (h : i < xs.length) : (upd xs i y)[i]? = some y := by
  unfold upd
  rw [List.getElem?_append_right (by simp; omega)]
  simp [Nat.min_eq_left (Nat.le_of_lt h)]
theorem upd_lt {xs : List D} {i j : Nat} (y : D) (h : i < xs.length) (hj : j < i) : (upd xs i y)[j]? = xs[j]? := by
  unfold upd
  rw [List.getElem?_append_left (by simp; omega), List.getElem?_take, if_pos hj]
theorem e_upd {a y : DE} {p i : Nat} {xs : List D} {ρ : Env} {S S1 : Sto} {d : D} (ha : a ρ S = .ok (.tup xs) S) (ha1 : a ρ S1 = .ok (.tup xs) S1) (hp : ∀ S, eV p ρ S = .ok (.int (i : Nat)) S) (hy : y ρ S = .ok d S1) (hi : i < xs.length) (hl : xs.length ≤ 1000) :
    (Z.e2 fPlus (Z.e2 fPlus (eSl a oN (oS (eV p))) (eTup (aC y aN))) (eSl a (oS (Z.e2 fPlus (eV p) (eC (.int 1)))) oN)) ρ S = .ok (.tup (upd xs i d)) S1 := by
  have e1 : ((i : Nat) : Int) + 1 = ((i + 1 : Nat) : Int) := by omega
  have l1 : (xs.take i).length + 1 ≤ 16777216 := by simp; omega
  have l2 : (xs.take i ++ [d]).length + (xs.drop (i + 1)).length ≤ 16777216 := by simp; omega
  have s1 : eSl a oN (oS (eV p)) ρ S = .ok (.tup (xs.take i)) S := by
    simp only [eSl, ha, R.bind_ok, oN, oS, hp, fSl, cutA_hi]
  have s2 : eSl a (oS (Z.e2 fPlus (eV p) (eC (.int 1)))) oN ρ S1 = .ok (.tup (xs.drop (i + 1))) S1 := by
    simp only [eSl, ha1, R.bind_ok, oN, oS, Z.e2, hp, eC, fPlus, fSl, e1, cutA_lo]
  have s3 : eTup (aC y aN) ρ S = .ok (.tup [d]) S1 := by simp [eTup, aC, aN, hy]
  have s4 : fPlus (.tup (xs.take i)) (.tup [d]) S1 = .ok (.tup (xs.take i ++ [d])) S1 := by
    simp only [fPlus]
    rw [if_pos (by simpa using l1)]
  have s5 : fPlus (.tup (xs.take i ++ [d])) (.tup (xs.drop (i + 1))) S1 = .ok (.tup (upd xs i d)) S1 := by
    simp only [fPlus]
    rw [if_pos l2]
    simp [upd]
  rw [e2_ok (e2_ok s1 s3 |>.trans s4) s2]
  exact s5
end Z
namespace Z.k01
open PySem L2 Z
def top (i : Nat) : Stmt := PySem.Challenge.pw_wholestrokes_k01_whole_things_and_what_t.main.body.getD i (.Pass ⟨0, 0, 0, 0⟩)
structure Ad where
  (Thing StrokesError InvalidThing : Addr)
@[reducible] def Ad.cs (c : Ad) : List Addr := [c.Thing]
@[reducible] def Ad.es (c : Ad) : List Addr := [c.InvalidThing]
def Ad.mt_StrokesError (c : Ad) (C : Addr) : Option Bool := if C = c.InvalidThing then some true else none
def Ad.is_StrokesError (c : Ad) (C : Addr) : Option Bool := if C = c.InvalidThing then some true else none
def Ad.mt_InvalidThing (c : Ad) (C : Addr) : Option Bool := if C = c.InvalidThing then some true else none
def Ad.is_InvalidThing (c : Ad) (C : Addr) : Option Bool := if C = c.InvalidThing then some true else none
def ad (K : PySem.W.Frag) : Ad := ⟨He.ga K "Thing", He.ga K "StrokesError", He.ga K "InvalidThing"⟩
/-! is_integer -/
abbrev s_is_integer : Stmt := top 4
def dl_is_integer : List D := []
noncomputable def den_is_integer (c : Ad) : DS := (sRet (eAnd (eCall (fIsi c.cs) (aC (eV 0) (aC (eC (.ty "int")) aN))) (eNot (eCall (fIsi c.cs) (aC (eV 0) (aC (eC (.ty "bool")) aN))))))
noncomputable def F_is_integer (c : Ad) : List D → Sto → R D := runB 1 (den_is_integer c)
/-! is_number -/
abbrev s_is_number : Stmt := top 5
def dl_is_number : List D := [.non]
noncomputable def den_is_number (c : Ad) : DS := (sRet (eAnd (eFn 1 (F_is_integer c) (dl_is_integer.drop 0) (aC (eV 0) aN)) (eAnd (e2 fGe (eV 0) (eC (.int 0))) (eOr (e1 fIsN (eV 1)) (e2 fLe (eV 0) (eV 1))))))
noncomputable def F_is_number (c : Ad) : List D → Sto → R D := runB 2 (den_is_number c)
/-! is_kind -/
abbrev s_is_kind : Stmt := top 6
def dl_is_kind : List D := []
noncomputable def den_is_kind (c : Ad) : DS := (sRet (eAnd (eFn 2 (F_is_number c) (dl_is_number.drop 1) (aC (eV 0) (aC (eC (.int 16)) aN))) (e2 fGt (eV 0) (eC (.int 0)))))
noncomputable def F_is_kind (c : Ad) : List D → Sto → R D := runB 1 (den_is_kind c)
/-! is_sequence -/
abbrev s_is_sequence : Stmt := top 7
def dl_is_sequence : List D := []
noncomputable def den_is_sequence (c : Ad) : DS := (sRet (eCall (fIsi c.cs) (aC (eV 0) (aC (eTup (aC (eC (.ty "list")) (aC (eC (.ty "tuple")) aN))) aN))))
noncomputable def F_is_sequence (c : Ad) : List D → Sto → R D := runB 1 (den_is_sequence c)
/-! is_ascending -/
abbrev s_is_ascending : Stmt := top 8
def dl_is_ascending : List D := []
noncomputable def den_is_ascending (c : Ad) : DS := (sRet (eCall fAll (aC (eLV (lLc (.nm 1) (iR2 (eC (.int 1)) (eCall fLen (aC (eV 0) aN))) tYes (e2 fLtA (e2 fIx (eV 0) (e2 fSub (eV 1) (eC (.int 1)))) (e2 fIx (eV 0) (eV 1))) [1])) aN)))
noncomputable def F_is_ascending (c : Ad) : List D → Sto → R D := runB 2 (den_is_ascending c)
/-! is_call_row -/
abbrev s_is_call_row : Stmt := top 12
def dl_is_call_row : List D := []
noncomputable def den_is_call_row (c : Ad) : DS := (sRet (eAnd (eFn 1 (F_is_sequence c) (dl_is_sequence.drop 0) (aC (eV 0) aN)) (eAnd (e2 fEq (eCall fLen (aC (eV 0) aN)) (eC (.int 2))) (eCall fAll (aC (eLV (lLc (.nm 1) (iSeq (eV 0)) tYes (eFn 1 (F_is_kind c) (dl_is_kind.drop 0) (aC (eV 1) aN)) [1])) aN)))))
noncomputable def F_is_call_row (c : Ad) : List D → Sto → R D := runB 2 (den_is_call_row c)
/-! is_pair_of -/
abbrev s_is_pair_of : Stmt := top 13
def dl_is_pair_of : List D := []
noncomputable def den_is_pair_of (c : Ad) : DS := (sSeq (sIf (tOr (tNot (tV (eCall (fIsi c.cs) (aC (eV 0) (aC (eC (.ty "tuple")) aN))))) (tVB (e2 fNe (eCall fLen (aC (eV 0) aN)) (eC (.int 2))))) (sRet (eC (.bl false))) sNx)
  (sRet (eAnd (eFn 2 (F_is_number c) (dl_is_number.drop 1) (aC (e2 fIx (eV 0) (eC (.int 0))) (aC (e2 fSub (eV 1) (eC (.int 1))) aN))) (eFn 2 (F_is_number c) (dl_is_number.drop 1) (aC (e2 fIx (eV 0) (eC (.int 1))) (aC (e2 fSub (eV 2) (eC (.int 1))) aN))))))
noncomputable def F_is_pair_of (c : Ad) : List D → Sto → R D := runB 3 (den_is_pair_of c)
/-! are_pairs -/
abbrev s_are_pairs : Stmt := top 14
def dl_are_pairs : List D := []
noncomputable def den_are_pairs (c : Ad) : DS := (sSeq (sIf (tOr (tNot (tV (eCall (fIsi c.cs) (aC (eV 0) (aC (eC (.ty "tuple")) aN))))) (tVB (e2 fEq (eCall fLen (aC (eV 0) aN)) (eC (.int 0))))) (sRet (eC (.bl false))) sNx)
  (sRet (eAnd (eCall fAll (aC (eLV (lLc (.nm 3) (iSeq (eV 0)) tYes (eFn 3 (F_is_pair_of c) (dl_is_pair_of.drop 0) (aC (eV 3) (aC (eV 1) (aC (eV 2) aN)))) [3])) aN)) (eFn 1 (F_is_ascending c) (dl_is_ascending.drop 0) (aC (eV 0) aN)))))
noncomputable def F_are_pairs (c : Ad) : List D → Sto → R D := runB 4 (den_are_pairs c)
/-! wrong_entry -/
abbrev s_wrong_entry : Stmt := top 15
def dl_wrong_entry : List D := []
noncomputable def lb_wrong_entry_1 (c : Ad) : DS := (sIf (tNot (tV (eFn 3 (F_are_pairs c) (dl_are_pairs.drop 0) (aC (e2 fIx (e2 fIx (eV 3) (eV 4)) (eV 7)) (aC (eV 6) (aC (eCall fLen (aC (eV 1) aN)) aN)))))) (sRet (eTup (aC (eV 2) (aC (eV 4) (aC (eV 7) aN))))) sNx)
noncomputable def lb_wrong_entry_2 (c : Ad) : DS := (sSeq (sIf (tOr (tNot (tV (eFn 1 (F_is_sequence c) (dl_is_sequence.drop 0) (aC (eV 3) aN)))) (tOr (tVB (e2 fNe (eCall fLen (aC (eV 3) aN)) (eCall fLen (aC (eV 0) aN)))) (tOr (tNot (tV (eFn 1 (F_is_sequence c) (dl_is_sequence.drop 0) (aC (e2 fIx (eV 3) (eV 4)) aN)))) (tVB (e2 fNe (eCall fLen (aC (e2 fIx (eV 3) (eV 4)) aN)) (eV 5)))))) (sRet (eTup (aC (eV 2) (aC (eV 4) (aC (e1 fNeg (eC (.int 1))) aN))))) sNx)
  (sFor (.nm 7) (iR1 (eV 5)) (lb_wrong_entry_1 c)))
noncomputable def lb_wrong_entry_3 (c : Ad) : DS := (sFor (.tp [(.nm 4), (.tp [(.nm 5), (.nm 6)])]) (iCall fEnum (aC (eV 0) aN)) (lb_wrong_entry_2 c))
noncomputable def den_wrong_entry (c : Ad) : DS := (sSeq (sFor (.tp [(.nm 2), (.nm 3)]) (iCall fEnum (aC (eV 1) aN)) (lb_wrong_entry_3 c))
  (sRet (eC .non)))
noncomputable def F_wrong_entry (c : Ad) : List D → Sto → R D := runB 8 (den_wrong_entry c)
/-! Thing.__init__ -/
abbrev s_Thing_mk : Stmt := inClass (top 16) 0
def dl_Thing_mk : List D := []
noncomputable def den_Thing_mk (c : Ad) : DS := (sSeq (sIf (tOr (tNot (tV (eFn 1 (F_is_sequence c) (dl_is_sequence.drop 0) (aC (eV 1) aN)))) (tOr (tNot (tVB (eChain fLe fLe (eC (.int 1)) (eCall fLen (aC (eV 1) aN)) (eC (.int 12))))) (tNot (tV (eCall fAll (aC (eLV (lLc (.nm 3) (iSeq (eV 1)) tYes (eFn 1 (F_is_call_row c) (dl_is_call_row.drop 0) (aC (eV 3) aN)) [3])) aN)))))) (sRaise c.InvalidThing (eC (.str "calls"))) sNx)
  (sSeq (sIf (tOr (tNot (tV (eFn 1 (F_is_sequence c) (dl_is_sequence.drop 0) (aC (eV 2) aN)))) (tNot (tVB (eChain fLe fLe (eC (.int 1)) (eCall fLen (aC (eV 2) aN)) (eC (.int 256)))))) (sRaise c.InvalidThing (eC (.str "table"))) sNx)
  (sSeq (sSet 4 (eFn 2 (F_wrong_entry c) (dl_wrong_entry.drop 0) (aC (eV 1) (aC (eV 2) aN))))
  (sSeq (sIf (tVB (e1 fNotN (eV 4))) (sRaise c.InvalidThing (eV 4)) sNx)
  (sSeq (sAttr c.cs "calls" (eCall fTuple (aC (eLV (lLc (.nm 3) (iSeq (eV 1)) tYes (eTup (aC (e2 fIx (eV 3) (eC (.int 0))) (aC (e2 fIx (eV 3) (eC (.int 1))) aN))) [3])) aN)) (eV 0))
  (sAttr c.cs "table" (eCall fTuple (aC (eLV (lLc (.nm 3) (iSeq (eV 2)) tYes (eCall fTuple (aC (eLV (lLc (.nm 5) (iSeq (eV 3)) tYes (eCall fTuple (aC (eV 5) aN)) [5])) aN)) [3])) aN)) (eV 0)))))))
noncomputable def F_Thing_mk (c : Ad) : List D → Sto → R D := runB 6 (den_Thing_mk c)
/-! states_of -/
abbrev s_states_of : Stmt := top 17
def dl_states_of : List D := []
noncomputable def den_states_of (c : Ad) : DS := (sRet (eCall fLen (aC (eFld c.cs "table" (eV 0)) aN)))
noncomputable def F_states_of (c : Ad) : List D → Sto → R D := runB 1 (den_states_of c)
/-! is_call -/
abbrev s_is_call : Stmt := top 18
def dl_is_call : List D := []
noncomputable def den_is_call (c : Ad) : DS := (sRet (eAnd (eFn 2 (F_is_number c) (dl_is_number.drop 1) (aC (eV 1) (aC (e2 fSub (eCall fLen (aC (eFld c.cs "calls" (eV 0)) aN)) (eC (.int 1))) aN))) (eFn 2 (F_is_number c) (dl_is_number.drop 1) (aC (eV 2) (aC (e2 fSub (e2 fIx (e2 fIx (eFld c.cs "calls" (eV 0)) (eV 1)) (eC (.int 0))) (eC (.int 1))) aN)))))
noncomputable def F_is_call (c : Ad) : List D → Sto → R D := runB 3 (den_is_call c)
/-! calls_of -/
abbrev s_calls_of : Stmt := top 19
def dl_calls_of : List D := []
noncomputable def den_calls_of (c : Ad) : DS := (sRet (eCall fTuple (aC (eLV (lLc2 (.tp [(.nm 1), (.tp [(.nm 2), (.nm 3)])]) (iCall fEnum (aC (eFld c.cs "calls" (eV 0)) aN)) tYes (.nm 4) (iR1 (eV 2)) tYes (eTup (aC (eV 1) (aC (eV 4) aN))) [1, 2, 3, 4] [4])) aN)))
noncomputable def F_calls_of (c : Ad) : List D → Sto → R D := runB 5 (den_calls_of c)
/-! pairs_of -/
abbrev s_pairs_of : Stmt := top 20
def dl_pairs_of : List D := []
noncomputable def den_pairs_of (c : Ad) : DS := (sRet (e2 fIx (e2 fIx (e2 fIx (eFld c.cs "table" (eV 0)) (eV 1)) (eV 2)) (eV 3)))
noncomputable def F_pairs_of (c : Ad) : List D → Sto → R D := runB 4 (den_pairs_of c)
/-! is_sure -/
abbrev s_is_sure : Stmt := top 21
def dl_is_sure : List D := []
noncomputable def den_is_sure (c : Ad) : DS := (sSeq (sSet 1 (eFn 1 (F_calls_of c) (dl_calls_of.drop 0) (aC (eV 0) aN)))
  (sRet (eCall fAll (aC (eLV (lLc2 (.nm 2) (iR1 (eFn 1 (F_states_of c) (dl_states_of.drop 0) (aC (eV 0) aN))) tYes (.tp [(.nm 3), (.nm 4)]) (iSeq (eV 1)) tYes (e2 fEq (eCall fLen (aC (eFn 4 (F_pairs_of c) (dl_pairs_of.drop 0) (aC (eV 0) (aC (eV 2) (aC (eV 3) (aC (eV 4) aN))))) aN)) (eC (.int 1))) [2, 3, 4] [3, 4])) aN))))
noncomputable def F_is_sure (c : Ad) : List D → Sto → R D := runB 5 (den_is_sure c)
/-! is_part -/
abbrev s_is_part : Stmt := top 22
def dl_is_part : List D := []
noncomputable def den_is_part (c : Ad) : DS := (sSeq (sIf (tOr (tNot (tV (eCall (fIsi c.cs) (aC (eV 0) (aC (eC (.ty "tuple")) aN))))) (tOr (tVB (e2 fNe (eCall fLen (aC (eV 0) aN)) (eC (.int 2)))) (tNot (tV (eCall (fIsi c.cs) (aC (e2 fIx (eV 0) (eC (.int 0))) (aC (eC (.adr c.Thing)) aN))))))) (sRet (eC (.bl false))) sNx)
  (sRet (eFn 2 (F_is_number c) (dl_is_number.drop 1) (aC (e2 fIx (eV 0) (eC (.int 1))) (aC (e2 fSub (eFn 1 (F_states_of c) (dl_states_of.drop 0) (aC (e2 fIx (eV 0) (eC (.int 0))) aN)) (eC (.int 1))) aN)))))
noncomputable def F_is_part (c : Ad) : List D → Sto → R D := runB 1 (den_is_part c)
/-! unlike_pairs -/
abbrev s_unlike_pairs : Stmt := top 24
def dl_unlike_pairs : List D := []
noncomputable def lb_unlike_pairs_1 (c : Ad) : DS := (sDrop (eSetd (eV 4) (eV 6) (eTup (aC (eV 5) (aC (eV 6) aN)))))
noncomputable def den_unlike_pairs (c : Ad) : DS := (sSeq (sSet 4 eDct)
  (sSeq (sFor (.tp [(.nm 5), (.nm 6)]) (iSeq (eFn 4 (F_pairs_of c) (dl_pairs_of.drop 0) (aC (eV 0) (aC (eV 1) (aC (eV 2) (aC (eV 3) aN)))))) (lb_unlike_pairs_1 c))
  (sRet (eCall fTuple (aC (eLV (lLc (.nm 6) (iSeq (eLV (lSort (aC (eLV (lList (aC (eV 4) aN))) aN)))) tYes (e2 fDGet (eV 4) (eV 6)) [6])) aN)))))
noncomputable def F_unlike_pairs (c : Ad) : List D → Sto → R D := runB 7 (den_unlike_pairs c)
/-! reached_states -/
abbrev s_reached_states : Stmt := top 23
def dl_reached_states : List D := []
noncomputable def lb_reached_states_1 (c : Ad) : DS := (sDrop (eBM fExt (eV 2) (aC (eLV (lLc (.tp [(.nm 6), (.nm 7)]) (iSeq (eFn 4 (F_unlike_pairs c) (dl_unlike_pairs.drop 0) (aC (eV 0) (aC (e2 fIx (eV 2) (eV 3)) (aC (eV 4) (aC (eV 5) aN)))))) (tVB (e2 fNotIn (eV 7) (eV 2))) (eV 7) [6, 7])) aN)))
noncomputable def lb_reached_states_2 (c : Ad) : DS := (sSeq (sFor (.tp [(.nm 4), (.nm 5)]) (iSeq (eFn 1 (F_calls_of c) (dl_calls_of.drop 0) (aC (eV 0) aN))) (lb_reached_states_1 c))
  (sAug 3 (eC (.int 1))))
noncomputable def lb_reached_states_3 (c : Ad) : DT := (tVB (e2 fLt (eV 3) (eCall fLen (aC (eV 2) aN))))
noncomputable def den_reached_states (c : Ad) : DS := (sSeq (sAsg (.tp [(.nm 2), (.nm 3)]) (eTup (aC (eLN (aC (eV 1) aN)) (aC (eC (.int 0)) aN))))
  (sSeq (whileI (lb_reached_states_3 c) (lb_reached_states_2 c) 8)
  (sRet (eCall fTuple (aC (eV 2) aN)))))
noncomputable def F_reached_states (c : Ad) : List D → Sto → R D := runB 8 (den_reached_states c)
/-! _law_heap -/
abbrev s__law_heap : Stmt := top 26
def dl__law_heap : List D := []
noncomputable def lb__law_heap_1 (c : Ad) : DS := (sSet 3 (e2 fMod (eCall fInt (aC (e2 fPlus (e2 fPlus (e2 fMul (eV 3) (eC (.int 69621))) (e2 fMod (eCall fInt (aC (eV 4) aN)) (eC (.int 2147483563)))) (eC (.int 71))) aN)) (eC (.int 2147483647))))
noncomputable def den__law_heap (c : Ad) : DS := (sSeq (sSet 1 (e2 fMul (e2 fMul (e2 fPow (eC (.int 10)) (eC (.int 60))) (e2 fPow (eC (.int 10)) (eC (.int 60)))) (e2 fPow (eC (.int 10)) (eC (.int 60)))))
  (sSeq (sPar 2 3 (eLV (lLc (.nm 4) (iSeq (eLV (lSl (eV 0) oN (oS (eC (.int 60)))))) tYes (e2 fMod (eCall fInt (aC (e2 fPlus (e2 fMul (eC (.int 2)) (eCall fAbs (aC (eV 4) aN))) (eCall fInt (aC (e2 fLt (eV 4) (eC (.int 0))) aN))) aN)) (eV 1)) [4])) (eC (.int 20045)))
  (sSeq (sFor (.nm 4) (iSeq (eV 2)) (lb__law_heap_1 c))
  (sRet (eLN (aC (eLN (lRev (eLV (lLc (.nm 4) (iSeq (eV 2)) (tVB (e2 fGe (eV 4) (e2 fPow (eC (.int 10)) (eC (.int 18))))) (eV 4) [4])))) (aC (eV 3) aN)))))))
noncomputable def F__law_heap (c : Ad) : List D → Sto → R D := runB 5 (den__law_heap c)
/-! _law_draw -/
abbrev s__law_draw : Stmt := top 27
def dl__law_draw : List D := []
noncomputable def lb__law_draw_1 (c : Ad) : DS := (sDrop (eBM fPop (e2 fIx (eV 0) (eC (.int 0))) aN))
noncomputable def lb__law_draw_2 (c : Ad) : DT := (tAnd (tVB (e2 fNe (e2 fIx (eV 0) (eC (.int 0))) (eLV aN))) (tVB (e2 fEq (e2 fIx (e2 fIx (eV 0) (eC (.int 0))) (e1 fNeg (eC (.int 1)))) (eC (.int 0)))))
noncomputable def den__law_draw (c : Ad) : DS := (sSeq (whileI (lb__law_draw_2 c) (lb__law_draw_1 c) 64)
  (sSeq (sIf (tVB (e2 fNe (e2 fIx (eV 0) (eC (.int 0))) (eLV aN))) (sSeq (sSet 2 (eBM fPop (e2 fIx (eV 0) (eC (.int 0))) aN))
  (sSeq (sDrop (eBM fApp (e2 fIx (eV 0) (eC (.int 0))) (aC (e2 fDiv (eV 2) (eV 1)) aN)))
  (sRet (e2 fMod (eCall fInt (aC (eV 2) aN)) (eV 1))))) sNx)
  (sSeq (sPut (e2 fMod (eCall fInt (aC (e2 fPlus (e2 fMul (e2 fIx (eV 0) (eC (.int 1))) (eC (.int 48271))) (eC (.int 83))) aN)) (eC (.int 2147483647))) (eV 0) (eC (.int 1)))
  (sRet (e2 fMod (eCall fInt (aC (e2 fDiv (e2 fIx (eV 0) (eC (.int 1))) (eC (.int 32))) aN)) (eV 1))))))
noncomputable def F__law_draw (c : Ad) : List D → Sto → R D := runB 3 (den__law_draw c)
/-! _law_pick -/
abbrev s__law_pick : Stmt := top 28
def dl__law_pick : List D := []
noncomputable def den__law_pick (c : Ad) : DS := (sRet (e2 fIx (eV 1) (eFn 2 (F__law_draw c) (dl__law_draw.drop 0) (aC (eV 0) (aC (eCall fLen (aC (eV 1) aN)) aN)))))
noncomputable def F__law_pick (c : Ad) : List D → Sto → R D := runB 2 (den__law_pick c)
/-! _law_like -/
abbrev s__law_like : Stmt := top 29
def dl__law_like : List D := []
noncomputable def den__law_like (c : Ad) (F_rec : List D → Sto → R D) : DS := (sSeq (sIf (tV (eCall (fIsi c.cs) (aC (eV 1) (aC (eC (.ty "tuple")) aN)))) (sRet (eAnd (eCall (fIsi c.cs) (aC (eV 0) (aC (eC (.ty "tuple")) aN))) (eAnd (e2 fEq (eCall fLen (aC (eV 0) aN)) (eCall fLen (aC (eV 1) aN))) (eCall fAll (aC (eLV (lLc (.tp [(.nm 2), (.nm 3)]) (iCall fZip (aC (eV 0) (aC (eV 1) aN))) tYes (eFn 2 (F_rec) (dl__law_like.drop 0) (aC (eV 2) (aC (eV 3) aN))) [2, 3])) aN))))) sNx)
  (sSeq (sIf (tVB (e1 fIsN (eV 1))) (sRet (e1 fIsN (eV 0))) sNx)
  (sSeq (sIf (tV (eCall (fIsi c.cs) (aC (eV 1) (aC (eC (.ty "bool")) aN)))) (sRet (eIf (tV (eV 1)) (e2 fIsB (eV 0) (eC (.bl true))) (e2 fIsB (eV 0) (eC (.bl false))))) sNx)
  (sSeq (sIf (tV (eCall (fIsi c.cs) (aC (eV 1) (aC (eC (.ty "int")) aN)))) (sRet (eAnd (eCall (fIsi c.cs) (aC (eV 0) (aC (eC (.ty "int")) aN))) (eAnd (eNot (eCall (fIsi c.cs) (aC (eV 0) (aC (eC (.ty "bool")) aN)))) (e2 fEq (eV 0) (eV 1))))) sNx)
  (sRet (eAnd (eCall (fIsi c.cs) (aC (eV 0) (aC (eC (.ty "str")) aN))) (eAnd (eCall (fIsi c.cs) (aC (eV 1) (aC (eC (.ty "str")) aN))) (e2 fEq (eV 0) (eV 1)))))))))
noncomputable def F__law_like (c : Ad) : Nat → List D → Sto → R D
  | 0 => fun _ _ => .bad
  | fuel + 1 => runB 4 (den__law_like c (F__law_like c fuel))
/-! _law_thing -/
abbrev s__law_thing : Stmt := top 30
def dl__law_thing : List D := []
noncomputable def lb__law_thing_1 (c : Ad) : DS := (sDrop (eBM fApp (eV 3) (aC (eTup (aC (eFn 2 (F__law_pick c) (dl__law_pick.drop 0) (aC (eV 0) (aC (eLV (aC (eC (.int 1)) (aC (eC (.int 1)) (aC (eC (.int 2)) (aC (eC (.int 3)) aN))))) aN))) (aC (eFn 2 (F__law_pick c) (dl__law_pick.drop 0) (aC (eV 0) (aC (eLV (aC (eC (.int 1)) (aC (eC (.int 2)) (aC (eC (.int 2)) (aC (eC (.int 3)) aN))))) aN))) aN))) aN)))
noncomputable def lb__law_thing_2 (c : Ad) : DS := (sSeq (sSet 12 (eLN (aC (eTup (aC (eFn 2 (F__law_draw c) (dl__law_draw.drop 0) (aC (eV 0) (aC (eV 9) aN))) (aC (eFn 2 (F__law_draw c) (dl__law_draw.drop 0) (aC (eV 0) (aC (eV 2) aN))) aN))) aN)))
  (sSeq (sIf (tAnd (tNot (tV (eV 1))) (tVB (e2 fEq (eFn 2 (F__law_draw c) (dl__law_draw.drop 0) (aC (eV 0) (aC (eC (.int 4)) aN))) (eC (.int 0))))) (sDrop (eBM fApp (eV 12) (aC (eTup (aC (eFn 2 (F__law_draw c) (dl__law_draw.drop 0) (aC (eV 0) (aC (eV 9) aN))) (aC (eFn 2 (F__law_draw c) (dl__law_draw.drop 0) (aC (eV 0) (aC (eV 2) aN))) aN))) aN))) sNx)
  (sDrop (eBM fApp (eV 10) (aC (eCall fTuple (aC (eLV (lSortSet (aC (eV 12) aN))) aN)) aN)))))
noncomputable def lb__law_thing_3 (c : Ad) : DS := (sSeq (sSet 10 (eLN aN))
  (sSeq (sFor (.nm 11) (iR1 (eV 8)) (lb__law_thing_2 c))
  (sDrop (eBM fApp (eV 7) (aC (eCall fTuple (aC (eV 10) aN)) aN)))))
noncomputable def lb__law_thing_4 (c : Ad) : DS := (sSeq (sSet 7 (eLN aN))
  (sSeq (sFor (.tp [(.nm 8), (.nm 9)]) (iSeq (eV 3)) (lb__law_thing_3 c))
  (sDrop (eBM fApp (eV 5) (aC (eCall fTuple (aC (eV 7) aN)) aN)))))
noncomputable def den__law_thing (c : Ad) : DS := (sSeq (sPar 2 3 (e2 fPlus (eC (.int 1)) (eFn 2 (F__law_draw c) (dl__law_draw.drop 0) (aC (eV 0) (aC (eC (.int 5)) aN)))) (eLN aN))
  (sSeq (sFor (.nm 4) (iR1 (e2 fPlus (eC (.int 1)) (eFn 2 (F__law_draw c) (dl__law_draw.drop 0) (aC (eV 0) (aC (eC (.int 3)) aN))))) (lb__law_thing_1 c))
  (sSeq (sSet 5 (eLN aN))
  (sSeq (sFor (.nm 6) (iR1 (eV 2)) (lb__law_thing_4 c))
  (sRet (eTup (aC (eCall fTuple (aC (eV 3) aN)) (aC (eCall fTuple (aC (eV 5) aN)) aN))))))))
noncomputable def F__law_thing (c : Ad) : List D → Sto → R D := runB 13 (den__law_thing c)
/-! _law_tried -/
abbrev s__law_tried : Stmt := top 31
def dl__law_tried : List D := []
noncomputable def den__law_tried (c : Ad) : DS := (sTry (c.mt_StrokesError) 2 (sRet (eTup (aC (eC (.str "told")) (aC (eMk c.Thing 3 (F_Thing_mk c) (dl_Thing_mk.drop 0) (aC (eV 0) (aC (eV 1) aN))) aN)))) fun C d => (eTup (aC ((eC (.str "wrong"))) (aC (xIf (fun C d => (xIs c.is_InvalidThing C d)) (fun C d => (xAt c.es C d)) (fun C d => ((eC .non))) C d) aN))))
noncomputable def F__law_tried (c : Ad) : List D → Sto → R D := runB 3 (den__law_tried c)
/-! _law_listed -/
abbrev s__law_listed : Stmt := top 32
def dl__law_listed : List D := []
noncomputable def den__law_listed (c : Ad) (F_rec : List D → Sto → R D) : DS := (sSeq (sIf (tVB (e2 fEq (eV 2) (eC (.int 0)))) (sRet (eV 1)) sNx)
  (sSeq (sSet 3 (eLV (lLc (.nm 4) (iSeq (eV 1)) tYes (eFn 3 (F_rec) (dl__law_listed.drop 0) (aC (eV 0) (aC (eV 4) (aC (e2 fSub (eV 2) (eC (.int 1))) aN)))) [4])))
  (sRet (eIf (tVB (e2 fEq (eFn 2 (F__law_draw c) (dl__law_draw.drop 0) (aC (eV 0) (aC (eC (.int 2)) aN))) (eC (.int 0)))) (eV 3) (eCall fTuple (aC (eV 3) aN))))))
noncomputable def F__law_listed (c : Ad) : Nat → List D → Sto → R D
  | 0 => fun _ _ => .bad
  | fuel + 1 => runB 5 (den__law_listed c (F__law_listed c fuel))
/-! _law_checked -/
abbrev s__law_checked : Stmt := top 33
def dl__law_checked : List D := []
noncomputable def lb__law_checked_1 (c : Ad) : DS := (sIf (tVB (e2 fNe (eFn 2 (F__law_tried c) (dl__law_tried.drop 0) (aC (eV 3) (aC (eC .non) aN))) (eTup (aC (eC (.str "wrong")) (aC (eC (.str "calls")) aN))))) (sRet (eC (.bl false))) sNx)
noncomputable def lb__law_checked_2 (c : Ad) : DS := (sIf (tVB (e2 fNe (eFn 2 (F__law_tried c) (dl__law_tried.drop 0) (aC (eV 1) (aC (eV 3) aN))) (eTup (aC (eC (.str "wrong")) (aC (eC (.str "table")) aN))))) (sRet (eC (.bl false))) sNx)
noncomputable def den__law_checked (c : Ad) : DS := (sSeq (sFor (.nm 3) (iSeq (eLV (aC (eC .non) (aC (eTup aN) (aC (eC (.str "a")) (aC (eTup (aC (eC .non) aN)) (aC (eTup (aC (eTup (aC (eC (.int 1)) aN)) aN)) (aC (eTup (aC (eTup (aC (eC (.int 0)) (aC (eC (.int 1)) aN))) aN)) (aC (eTup (aC (eTup (aC (eC (.int 17)) (aC (eC (.int 1)) aN))) aN)) (aC (eTup (aC (eTup (aC (eC (.int 1)) (aC (eC (.bl true)) aN))) aN)) (aC (e2 fRepT (eTup (aC (eTup (aC (eC (.int 1)) (aC (eC (.int 2)) aN))) aN)) (eC (.int 13))) (aC (eTup (aC (eTup (aC (eC (.int 1)) (aC (eC (.int 2)) (aC (eC (.int 3)) aN)))) aN)) (aC (eC (.int 5)) aN))))))))))))) (lb__law_checked_1 c))
  (sSeq (sFor (.nm 3) (iSeq (eLV (aC (eC .non) (aC (eTup aN) (aC (eC (.str "a")) (aC (eC (.int 7)) (aC eDct (aC (e2 fRepT (eSl (eV 2) oN (oS (eC (.int 1)))) (eC (.int 257))) aN)))))))) (lb__law_checked_2 c))
  (sSeq (sPar 4 5 (eFn 2 (F__law_draw c) (dl__law_draw.drop 0) (aC (eV 0) (aC (eCall fLen (aC (eV 2) aN)) aN))) (eFn 2 (F__law_draw c) (dl__law_draw.drop 0) (aC (eV 0) (aC (eCall fLen (aC (eV 1) aN)) aN))))
  (sSeq (sPar 6 7 (eFn 2 (F__law_draw c) (dl__law_draw.drop 0) (aC (eV 0) (aC (e2 fIx (e2 fIx (eV 1) (eV 5)) (eC (.int 0))) aN))) (eCall fLen (aC (eV 2) aN)))
  (sSeq (sSet 8 (e2 fIx (e2 fIx (e2 fIx (eV 2) (eV 4)) (eV 5)) (eV 6)))
  (sSeq (sSet 9 (eLV (aC (eTup aN) (aC (eC .non) (aC (eLV (lList (aC (eV 8) aN))) (aC (e2 fPlus (eV 8) (eSl (eV 8) oN (oS (eC (.int 1))))) (aC (eTup (aC (eTup (aC (e2 fIx (e2 fIx (eV 1) (eV 5)) (eC (.int 1))) (aC (eC (.int 0)) aN))) aN)) (aC (eTup (aC (eTup (aC (eC (.int 0)) (aC (eV 7) aN))) aN)) (aC (eTup (aC (eTup (aC (eC (.int 0)) aN)) aN)) (aC (eTup (aC (eTup (aC (eC (.int 0)) (aC (eC (.int 0)) (aC (eC (.int 0)) aN)))) aN)) (aC (eTup (aC (eTup (aC (e1 fNeg (eC (.int 1))) (aC (eC (.int 0)) aN))) aN)) (aC (eTup (aC (eTup (aC (eC (.bl true)) (aC (eC (.int 0)) aN))) aN)) (aC (eTup (aC (eTup (aC (eC (.int 0)) (aC (eC .non) aN))) aN)) (aC (eTup (aC (eLV (aC (eC (.int 0)) (aC (eC (.int 0)) aN))) aN)) aN))))))))))))))
  (sSeq (sSet 10 (e2 fIx (e2 fIx (eV 2) (eV 4)) (eV 5)))
  (sSeq (sSet 11 (e2 fPlus (e2 fPlus (eSl (e2 fIx (eV 2) (eV 4)) oN (oS (eV 5))) (eTup (aC (e2 fPlus (e2 fPlus (eSl (eV 10) oN (oS (eV 6))) (eTup (aC (eFn 2 (F__law_pick c) (dl__law_pick.drop 0) (aC (eV 0) (aC (eV 9) aN))) aN))) (eSl (eV 10) (oS (e2 fPlus (eV 6) (eC (.int 1)))) oN)) aN))) (eSl (e2 fIx (eV 2) (eV 4)) (oS (e2 fPlus (eV 5) (eC (.int 1)))) oN)))
  (sSeq (sSet 12 (e2 fPlus (e2 fPlus (eSl (eV 2) oN (oS (eV 4))) (eTup (aC (eV 11) aN))) (eSl (eV 2) (oS (e2 fPlus (eV 4) (eC (.int 1)))) oN)))
  (sSeq (sIf (tNot (tV (eFn 2 (F__law_like c 9) (dl__law_like.drop 0) (aC (eFn 2 (F__law_tried c) (dl__law_tried.drop 0) (aC (eV 1) (aC (eV 12) aN))) (aC (eTup (aC (eC (.str "wrong")) (aC (eTup (aC (eV 4) (aC (eV 5) (aC (eV 6) aN)))) aN))) aN))))) (sRet (eC (.bl false))) sNx)
  (sSeq (sSet 11 (e2 fPlus (e2 fPlus (eSl (e2 fIx (eV 2) (eV 4)) oN (oS (eV 5))) (eTup (aC (eFn 2 (F__law_pick c) (dl__law_pick.drop 0) (aC (eV 0) (aC (eLV (aC (eC .non) (aC (e2 fPlus (eV 10) (eSl (eV 10) oN (oS (eC (.int 1))))) (aC (eSl (eV 10) (oS (eC (.int 1))) oN) (aC (eC (.str "ab")) (aC (eC (.int 3)) aN)))))) aN))) aN))) (eSl (e2 fIx (eV 2) (eV 4)) (oS (e2 fPlus (eV 5) (eC (.int 1)))) oN)))
  (sSeq (sSet 12 (e2 fPlus (e2 fPlus (eSl (eV 2) oN (oS (eV 4))) (eTup (aC (eV 11) aN))) (eSl (eV 2) (oS (e2 fPlus (eV 4) (eC (.int 1)))) oN)))
  (sSeq (sIf (tNot (tV (eFn 2 (F__law_like c 9) (dl__law_like.drop 0) (aC (eFn 2 (F__law_tried c) (dl__law_tried.drop 0) (aC (eV 1) (aC (eV 12) aN))) (aC (eTup (aC (eC (.str "wrong")) (aC (eTup (aC (eV 4) (aC (eV 5) (aC (e1 fNeg (eC (.int 1))) aN)))) aN))) aN))))) (sRet (eC (.bl false))) sNx)
  (sSeq (sSet 11 (eFn 2 (F__law_pick c) (dl__law_pick.drop 0) (aC (eV 0) (aC (eLV (aC (eC .non) (aC (e2 fPlus (e2 fIx (eV 2) (eV 4)) (eTup (aC (eV 10) aN))) (aC (eTup aN) (aC (eC (.int 7)) aN))))) aN))))
  (sRet (eFn 2 (F__law_like c 9) (dl__law_like.drop 0) (aC (eFn 2 (F__law_tried c) (dl__law_tried.drop 0) (aC (eV 1) (aC (e2 fPlus (e2 fPlus (eSl (eV 2) oN (oS (eV 4))) (eTup (aC (eV 11) aN))) (eSl (eV 2) (oS (e2 fPlus (eV 4) (eC (.int 1)))) oN)) aN))) (aC (eTup (aC (eC (.str "wrong")) (aC (eTup (aC (eV 4) (aC (eC (.int 0)) (aC (e1 fNeg (eC (.int 1))) aN)))) aN))) aN))))))))))))))))))
noncomputable def F__law_checked (c : Ad) : List D → Sto → R D := runB 13 (den__law_checked c)
/-! _law_reached -/
abbrev s__law_reached : Stmt := top 34
def dl__law_reached : List D := []
noncomputable def lb__law_reached_1 (c : Ad) : DS := (sSet 3 (eLV (lCat (eV 3) (eLV (lLc (.nm 9) (iSeq (eLV (aC (eC (.int 0)) aN))) (tVB (e2 fNotIn (eV 7) (eV 3))) (eV 7) [9])))))
noncomputable def lb__law_reached_2 (c : Ad) : DS := (sFor (.nm 7) (iSeq (eLV (lSortSet (aC (eLV (lLc (.nm 8) (iSeq (e2 fIx (e2 fIx (e2 fIx (eV 0) (e2 fIx (eV 3) (eV 4))) (eV 5)) (eV 6))) tYes (e2 fIx (eV 8) (eC (.int 1))) [8])) aN)))) (lb__law_reached_1 c))
noncomputable def lb__law_reached_3 (c : Ad) : DS := (sFor (.nm 6) (iR1 (e2 fIx (e2 fIx (eV 1) (eV 5)) (eC (.int 0)))) (lb__law_reached_2 c))
noncomputable def lb__law_reached_4 (c : Ad) : DS := (sSeq (sFor (.nm 5) (iR1 (eCall fLen (aC (eV 1) aN))) (lb__law_reached_3 c))
  (sAug 4 (eC (.int 1))))
noncomputable def lb__law_reached_5 (c : Ad) : DT := (tVB (e2 fLt (eV 4) (eCall fLen (aC (eV 3) aN))))
noncomputable def den__law_reached (c : Ad) : DS := (sSeq (sAsg (.tp [(.nm 3), (.nm 4)]) (eTup (aC (eLV (aC (eV 2) aN)) (aC (eC (.int 0)) aN))))
  (sSeq (whileI (lb__law_reached_5 c) (lb__law_reached_4 c) 8)
  (sRet (eCall fTuple (aC (eV 3) aN)))))
noncomputable def F__law_reached (c : Ad) : List D → Sto → R D := runB 10 (den__law_reached c)
/-! law -/
abbrev s_law : Stmt := top 35
def dl_law : List D := []
noncomputable def lb_law_1 (c : Ad) : DS := (sSet 7 (eLV (lCat (eV 7) (eLV (lLc (.nm 9) (iR1 (e2 fIx (e2 fIx (eV 3) (eV 8)) (eC (.int 0)))) tYes (eTup (aC (eV 8) (aC (eV 9) aN))) [9])))))
noncomputable def lb_law_2 (c : Ad) : DS := (sSeq (sDrop (eBM fApp (eV 10) (aC (e2 fIx (e2 fIx (e2 fIx (eV 4) (eV 11)) (eV 8)) (eV 9)) aN)))
  (sIf (tNot (tV (eFn 2 (F__law_like c 9) (dl__law_like.drop 0) (aC (eFn 4 (F_pairs_of c) (dl_pairs_of.drop 0) (aC (eV 6) (aC (eV 11) (aC (eV 8) (aC (eV 9) aN))))) (aC (e2 fIx (e2 fIx (e2 fIx (eV 4) (eV 11)) (eV 8)) (eV 9)) aN))))) (sRet (eC (.bl false))) sNx))
noncomputable def lb_law_3 (c : Ad) : DS := (sFor (.tp [(.nm 8), (.nm 9)]) (iSeq (eV 7)) (lb_law_2 c))
noncomputable def lb_law_4 (c : Ad) : DS := (sSeq (sSet 8 (eFn 2 (F__law_pick c) (dl__law_pick.drop 0) (aC (eV 1) (aC (eLV (aC (eC (.int 0)) (aC (e2 fSub (eCall fLen (aC (eV 3) aN)) (eC (.int 1))) (aC (eCall fLen (aC (eV 3) aN)) (aC (e1 fNeg (eC (.int 1))) (aC (eC .non) (aC (eC (.bl true)) (aC (eC (.str "0")) (aC (eTup (aC (eC (.int 0)) aN)) aN))))))))) aN))))
  (sSeq (sSet 9 (eFn 2 (F__law_pick c) (dl__law_pick.drop 0) (aC (eV 1) (aC (eLV (aC (eC (.int 0)) (aC (eC (.int 1)) (aC (eC (.int 2)) (aC (e1 fNeg (eC (.int 1))) (aC (eC .non) (aC (eC (.bl true)) (aC (eC (.str "0")) aN)))))))) aN))))
  (sSeq (sSet 15 (eAnd (eCall (fIsi c.cs) (aC (eV 8) (aC (eC (.ty "int")) aN))) (eAnd (eNot (eCall (fIsi c.cs) (aC (eV 8) (aC (eC (.ty "bool")) aN)))) (eAnd (eCall (fIsi c.cs) (aC (eV 9) (aC (eC (.ty "int")) aN))) (eAnd (eNot (eCall (fIsi c.cs) (aC (eV 9) (aC (eC (.ty "bool")) aN)))) (e2 fIn (eTup (aC (eV 8) (aC (eV 9) aN))) (eV 7)))))))
  (sIf (tNot (tV (eFn 2 (F__law_like c 9) (dl__law_like.drop 0) (aC (eFn 3 (F_is_call c) (dl_is_call.drop 0) (aC (eV 6) (aC (eV 8) (aC (eV 9) aN)))) (aC (eV 15) aN))))) (sRet (eC (.bl false))) sNx))))
noncomputable def lb_law_5 (c : Ad) : DS := (sSeq (sAsg (.tp [(.nm 3), (.nm 4)]) (eFn 2 (F__law_thing c) (dl__law_thing.drop 0) (aC (eV 1) (aC (e2 fEq (eFn 2 (F__law_draw c) (dl__law_draw.drop 0) (aC (eV 1) (aC (eC (.int 2)) aN))) (eC (.int 0))) aN))))
  (sSeq (sAsg (.tp [(.nm 5), (.nm 6)]) (eFn 2 (F__law_tried c) (dl__law_tried.drop 0) (aC (eFn 3 (F__law_listed c 5) (dl__law_listed.drop 0) (aC (eV 1) (aC (eV 3) (aC (eC (.int 2)) aN)))) (aC (eFn 3 (F__law_listed c 5) (dl__law_listed.drop 0) (aC (eV 1) (aC (eV 4) (aC (eC (.int 3)) aN)))) aN))))
  (sSeq (sIf (tOr (tVB (e2 fNe (eV 5) (eC (.str "told")))) (tOr (tNot (tV (eCall (fIsi c.cs) (aC (eV 6) (aC (eC (.adr c.Thing)) aN))))) (tNot (tV (eFn 2 (F__law_like c 9) (dl__law_like.drop 0) (aC (eTup (aC (eFld c.cs "calls" (eV 6)) (aC (eFld c.cs "table" (eV 6)) aN))) (aC (eTup (aC (eV 3) (aC (eV 4) aN))) aN))))))) (sRet (eC (.bl false))) sNx)
  (sSeq (sSet 7 (eLV aN))
  (sSeq (sFor (.nm 8) (iR1 (eCall fLen (aC (eV 3) aN))) (lb_law_1 c))
  (sSeq (sIf (tOr (tNot (tV (eFn 2 (F__law_like c 9) (dl__law_like.drop 0) (aC (eFn 1 (F_calls_of c) (dl_calls_of.drop 0) (aC (eV 6) aN)) (aC (eCall fTuple (aC (eV 7) aN)) aN))))) (tNot (tV (eFn 2 (F__law_like c 9) (dl__law_like.drop 0) (aC (eFn 1 (F_states_of c) (dl_states_of.drop 0) (aC (eV 6) aN)) (aC (eCall fLen (aC (eV 4) aN)) aN)))))) (sRet (eC (.bl false))) sNx)
  (sSeq (sSet 10 (eLN aN))
  (sSeq (sFor (.nm 11) (iR1 (eCall fLen (aC (eV 4) aN))) (lb_law_3 c))
  (sSeq (sIf (tNot (tV (eFn 2 (F__law_like c 9) (dl__law_like.drop 0) (aC (eFn 1 (F_is_sure c) (dl_is_sure.drop 0) (aC (eV 6) aN)) (aC (e2 fEq (eCall fMax (aC (eLV (lLc (.nm 12) (iSeq (eV 10)) tYes (eCall fLen (aC (eV 12) aN)) [12])) aN)) (eC (.int 1))) aN))))) (sRet (eC (.bl false))) sNx)
  (sSeq (sSet 13 (eFn 2 (F__law_draw c) (dl__law_draw.drop 0) (aC (eV 1) (aC (eCall fLen (aC (eV 4) aN)) aN))))
  (sSeq (sIf (tNot (tV (eFn 2 (F__law_like c 9) (dl__law_like.drop 0) (aC (eFn 2 (F_reached_states c) (dl_reached_states.drop 0) (aC (eV 6) (aC (eV 13) aN))) (aC (eFn 3 (F__law_reached c) (dl__law_reached.drop 0) (aC (eV 4) (aC (eV 3) (aC (eV 13) aN)))) aN))))) (sRet (eC (.bl false))) sNx)
  (sSeq (sFor (.nm 14) (iR1 (eC (.int 6))) (lb_law_4 c))
  (sSeq (sIf (tVB (e2 fNotB (eFn 1 (F_is_part c) (dl_is_part.drop 0) (aC (eTup (aC (eV 6) (aC (eV 13) aN))) aN)) (eC (.bl true)))) (sRet (eC (.bl false))) sNx)
  (sSeq (sSet 16 (eLV (aC (eC .non) (aC (eV 6) (aC (eTup (aC (eV 6) aN)) (aC (eLV (aC (eV 6) (aC (eV 13) aN))) (aC (eTup (aC (eV 6) (aC (eCall fLen (aC (eV 4) aN)) aN))) (aC (eTup (aC (eV 6) (aC (e1 fNeg (eC (.int 1))) aN))) (aC (eTup (aC (eV 6) (aC (eC (.bl true)) aN))) (aC (eTup (aC (eC .non) (aC (eC (.int 0)) aN))) (aC (eTup (aC (eV 6) (aC (eV 13) (aC (eC (.int 0)) aN)))) (aC (eTup (aC (eV 4) (aC (eC (.int 0)) aN))) aN))))))))))))
  (sIf (tOr (tNot (tV (eCall fAll (aC (eLV (lLc (.nm 17) (iSeq (eV 16)) tYes (e2 fIsB (eFn 1 (F_is_part c) (dl_is_part.drop 0) (aC (eV 17) aN)) (eC (.bl false))) [17])) aN)))) (tNot (tV (eFn 3 (F__law_checked c) (dl__law_checked.drop 0) (aC (eV 1) (aC (eV 3) (aC (eV 4) aN))))))) (sRet (eC (.bl false))) sNx)))))))))))))))
noncomputable def den_law (c : Ad) : DS := (sSeq (sSet 1 (eFn 1 (F__law_heap c) (dl__law_heap.drop 0) (aC (eV 0) aN)))
  (sSeq (sFor (.nm 2) (iR1 (eC (.int 2))) (lb_law_5 c))
  (sSeq (sPar 18 19 (eMk c.Thing 3 (F_Thing_mk c) (dl_Thing_mk.drop 0) (aC (e2 fRepT (eTup (aC (eTup (aC (eC (.int 16)) (aC (eC (.int 16)) aN))) aN)) (eC (.int 12))) (aC (eTup (aC (e2 fRepT (eTup (aC (e2 fRepT (eTup (aC (eTup (aC (eTup (aC (eC (.int 15)) (aC (eC (.int 0)) aN))) aN)) aN)) (eC (.int 16))) aN)) (eC (.int 12))) aN)) aN))) (eMk c.Thing 3 (F_Thing_mk c) (dl_Thing_mk.drop 0) (aC (eTup (aC (eTup (aC (eC (.int 1)) (aC (eC (.int 16)) aN))) aN)) (aC (e2 fRepT (eTup (aC (eTup (aC (eTup (aC (eTup (aC (eTup (aC (eC (.int 15)) (aC (eC (.int 255)) aN))) aN)) aN)) aN)) aN)) (eC (.int 256))) aN))))
  (sRet (eAnd (eFn 2 (F__law_like c 9) (dl__law_like.drop 0) (aC (eFn 1 (F_states_of c) (dl_states_of.drop 0) (aC (eV 19) aN)) (aC (eC (.int 256)) aN))) (eFn 2 (F__law_like c 9) (dl__law_like.drop 0) (aC (eTup (aC (eFn 4 (F_pairs_of c) (dl_pairs_of.drop 0) (aC (eV 18) (aC (eC (.int 0)) (aC (eC (.int 11)) (aC (eC (.int 15)) aN))))) (aC (eFn 4 (F_pairs_of c) (dl_pairs_of.drop 0) (aC (eV 19) (aC (eC (.int 255)) (aC (eC (.int 0)) (aC (eC (.int 0)) aN))))) aN))) (aC (eTup (aC (eTup (aC (eTup (aC (eC (.int 15)) (aC (eC (.int 0)) aN))) aN)) (aC (eTup (aC (eTup (aC (eC (.int 15)) (aC (eC (.int 255)) aN))) aN)) aN))) aN))))))))
noncomputable def F_law (c : Ad) : List D → Sto → R D := runB 20 (den_law c)
end Z.k01
namespace Z.k01
open PySem L2 Z
variable (c : Ad) (S : Sto)
/-! ### numbers -/
theorem is_integer_i (k : Int) : F_is_integer c [.int k] S = .ok (.bl true) S := by
  simp [F_is_integer, den_is_integer, runB, env0, sSeq, sRet, sRetN, sIf, sSet, sDrop, sNx, sPar, sAsg, sAttr, sPut, sRaise, Tg.asg, Tg.asgs, eAnd, eOr, eNot, eIf, tAnd, tOr, tNot, tV, tVB, tYes, eCall, eFn, eMk, eMt, eFld, eBM, aC, aN, eV, eC, Z.e1, Z.e2, eTup, eLV, eLN, eChain, eSl, fIsi, tyD, isK, anyK, tNames, rB, tru, fLen, fTuple, fAbs, fInt, fAll, fAny, fIsN, fNotN, fIsB, fNotB, fNeg, seqOf, lstOf, isL, fLt_ii, fLe_ii, fGt_ii, fGe_ii, fSub_ii, fPlus, fMod_ii, fMul_ii, fDiv_ii, fEq, fNe, eqD_int, fIx, atI_0, atI_1, atI_2, lLc, lLc2, iSeq, iCall, fEnum, fZip, wipeD, putD, lSl, lRev, R.to_ok, R.bind_ok]
/-- what is no whole number -/
def NoI (c : Ad) (d : D) : Prop := ∀ S, F_is_integer c [d] S = .ok (.bl false) S
theorem noI_non : NoI c .non := fun S => by simp [F_is_integer, den_is_integer, runB, env0, sSeq, sRet, sRetN, sIf, sSet, sDrop, sNx, sPar, sAsg, sAttr, sPut, sRaise, Tg.asg, Tg.asgs, eAnd, eOr, eNot, eIf, tAnd, tOr, tNot, tV, tVB, tYes, eCall, eFn, eMk, eMt, eFld, eBM, aC, aN, eV, eC, Z.e1, Z.e2, eTup, eLV, eLN, eChain, eSl, fIsi, tyD, isK, anyK, tNames, rB, tru, fLen, fTuple, fAbs, fInt, fAll, fAny, fIsN, fNotN, fIsB, fNotB, fNeg, seqOf, lstOf, isL, fLt_ii, fLe_ii, fGt_ii, fGe_ii, fSub_ii, fPlus, fMod_ii, fMul_ii, fDiv_ii, fEq, fNe, eqD_int, fIx, atI_0, atI_1, atI_2, lLc, lLc2, iSeq, iCall, fEnum, fZip, wipeD, putD, lSl, lRev, R.to_ok, R.bind_ok]
theorem noI_bl (b : Bool) : NoI c (.bl b) := fun S => by simp [F_is_integer, den_is_integer, runB, env0, sSeq, sRet, sRetN, sIf, sSet, sDrop, sNx, sPar, sAsg, sAttr, sPut, sRaise, Tg.asg, Tg.asgs, eAnd, eOr, eNot, eIf, tAnd, tOr, tNot, tV, tVB, tYes, eCall, eFn, eMk, eMt, eFld, eBM, aC, aN, eV, eC, Z.e1, Z.e2, eTup, eLV, eLN, eChain, eSl, fIsi, tyD, isK, anyK, tNames, rB, tru, fLen, fTuple, fAbs, fInt, fAll, fAny, fIsN, fNotN, fIsB, fNotB, fNeg, seqOf, lstOf, isL, fLt_ii, fLe_ii, fGt_ii, fGe_ii, fSub_ii, fPlus, fMod_ii, fMul_ii, fDiv_ii, fEq, fNe, eqD_int, fIx, atI_0, atI_1, atI_2, lLc, lLc2, iSeq, iCall, fEnum, fZip, wipeD, putD, lSl, lRev, R.to_ok, R.bind_ok]
theorem noI_str (b : Str) : NoI c (.str b) := fun S => by simp [F_is_integer, den_is_integer, runB, env0, sSeq, sRet, sRetN, sIf, sSet, sDrop, sNx, sPar, sAsg, sAttr, sPut, sRaise, Tg.asg, Tg.asgs, eAnd, eOr, eNot, eIf, tAnd, tOr, tNot, tV, tVB, tYes, eCall, eFn, eMk, eMt, eFld, eBM, aC, aN, eV, eC, Z.e1, Z.e2, eTup, eLV, eLN, eChain, eSl, fIsi, tyD, isK, anyK, tNames, rB, tru, fLen, fTuple, fAbs, fInt, fAll, fAny, fIsN, fNotN, fIsB, fNotB, fNeg, seqOf, lstOf, isL, fLt_ii, fLe_ii, fGt_ii, fGe_ii, fSub_ii, fPlus, fMod_ii, fMul_ii, fDiv_ii, fEq, fNe, eqD_int, fIx, atI_0, atI_1, atI_2, lLc, lLc2, iSeq, iCall, fEnum, fZip, wipeD, putD, lSl, lRev, R.to_ok, R.bind_ok]
theorem noI_tup (b : List D) : NoI c (.tup b) := fun S => by simp [F_is_integer, den_is_integer, runB, env0, sSeq, sRet, sRetN, sIf, sSet, sDrop, sNx, sPar, sAsg, sAttr, sPut, sRaise, Tg.asg, Tg.asgs, eAnd, eOr, eNot, eIf, tAnd, tOr, tNot, tV, tVB, tYes, eCall, eFn, eMk, eMt, eFld, eBM, aC, aN, eV, eC, Z.e1, Z.e2, eTup, eLV, eLN, eChain, eSl, fIsi, tyD, isK, anyK, tNames, rB, tru, fLen, fTuple, fAbs, fInt, fAll, fAny, fIsN, fNotN, fIsB, fNotB, fNeg, seqOf, lstOf, isL, fLt_ii, fLe_ii, fGt_ii, fGe_ii, fSub_ii, fPlus, fMod_ii, fMul_ii, fDiv_ii, fEq, fNe, eqD_int, fIx, atI_0, atI_1, atI_2, lLc, lLc2, iSeq, iCall, fEnum, fZip, wipeD, putD, lSl, lRev, R.to_ok, R.bind_ok]
theorem noI_lst (b : List D) : NoI c (.lst b) := fun S => by simp [F_is_integer, den_is_integer, runB, env0, sSeq, sRet, sRetN, sIf, sSet, sDrop, sNx, sPar, sAsg, sAttr, sPut, sRaise, Tg.asg, Tg.asgs, eAnd, eOr, eNot, eIf, tAnd, tOr, tNot, tV, tVB, tYes, eCall, eFn, eMk, eMt, eFld, eBM, aC, aN, eV, eC, Z.e1, Z.e2, eTup, eLV, eLN, eChain, eSl, fIsi, tyD, isK, anyK, tNames, rB, tru, fLen, fTuple, fAbs, fInt, fAll, fAny, fIsN, fNotN, fIsB, fNotB, fNeg, seqOf, lstOf, isL, fLt_ii, fLe_ii, fGt_ii, fGe_ii, fSub_ii, fPlus, fMod_ii, fMul_ii, fDiv_ii, fEq, fNe, eqD_int, fIx, atI_0, atI_1, atI_2, lLc, lLc2, iSeq, iCall, fEnum, fZip, wipeD, putD, lSl, lRev, R.to_ok, R.bind_ok]
theorem is_number_i (k m : Int) : F_is_number c [.int k, .int m] S = .ok (.bl (decide (0 ≤ k) && decide (k ≤ m))) S := by
  by_cases h : 0 ≤ k <;> simp [F_is_number, den_is_number, dl_is_integer, is_integer_i, h, runB, env0, sSeq, sRet, sRetN, sIf, sSet, sDrop, sNx, sPar, sAsg, sAttr, sPut, sRaise, Tg.asg, Tg.asgs, eAnd, eOr, eNot, eIf, tAnd, tOr, tNot, tV, tVB, tYes, eCall, eFn, eMk, eMt, eFld, eBM, aC, aN, eV, eC, Z.e1, Z.e2, eTup, eLV, eLN, eChain, eSl, fIsi, tyD, isK, anyK, tNames, rB, tru, fLen, fTuple, fAbs, fInt, fAll, fAny, fIsN, fNotN, fIsB, fNotB, fNeg, seqOf, lstOf, isL, fLt_ii, fLe_ii, fGt_ii, fGe_ii, fSub_ii, fPlus, fMod_ii, fMul_ii, fDiv_ii, fEq, fNe, eqD_int, fIx, atI_0, atI_1, atI_2, lLc, lLc2, iSeq, iCall, fEnum, fZip, wipeD, putD, lSl, lRev, R.to_ok, R.bind_ok]
theorem is_number_no {d : D} (h : NoI c d) (m : D) : F_is_number c [d, m] S = .ok (.bl false) S := by
  simp [F_is_number, den_is_number, dl_is_integer, h S, runB, env0, sSeq, sRet, sRetN, sIf, sSet, sDrop, sNx, sPar, sAsg, sAttr, sPut, sRaise, Tg.asg, Tg.asgs, eAnd, eOr, eNot, eIf, tAnd, tOr, tNot, tV, tVB, tYes, eCall, eFn, eMk, eMt, eFld, eBM, aC, aN, eV, eC, Z.e1, Z.e2, eTup, eLV, eLN, eChain, eSl, fIsi, tyD, isK, anyK, tNames, rB, tru, fLen, fTuple, fAbs, fInt, fAll, fAny, fIsN, fNotN, fIsB, fNotB, fNeg, seqOf, lstOf, isL, fLt_ii, fLe_ii, fGt_ii, fGe_ii, fSub_ii, fPlus, fMod_ii, fMul_ii, fDiv_ii, fEq, fNe, eqD_int, fIx, atI_0, atI_1, atI_2, lLc, lLc2, iSeq, iCall, fEnum, fZip, wipeD, putD, lSl, lRev, R.to_ok, R.bind_ok]
theorem is_kind_i (k : Int) : F_is_kind c [.int k] S = .ok (.bl (decide (0 < k) && decide (k ≤ 16))) S := by
  by_cases h : 0 ≤ k
  · by_cases h2 : k ≤ 16 <;> by_cases h3 : 0 < k <;> simp [F_is_kind, den_is_kind, dl_is_number, is_number_i, h, h2, h3, runB, env0, sSeq, sRet, sRetN, sIf, sSet, sDrop, sNx, sPar, sAsg, sAttr, sPut, sRaise, Tg.asg, Tg.asgs, eAnd, eOr, eNot, eIf, tAnd, tOr, tNot, tV, tVB, tYes, eCall, eFn, eMk, eMt, eFld, eBM, aC, aN, eV, eC, Z.e1, Z.e2, eTup, eLV, eLN, eChain, eSl, fIsi, tyD, isK, anyK, tNames, rB, tru, fLen, fTuple, fAbs, fInt, fAll, fAny, fIsN, fNotN, fIsB, fNotB, fNeg, seqOf, lstOf, isL, fLt_ii, fLe_ii, fGt_ii, fGe_ii, fSub_ii, fPlus, fMod_ii, fMul_ii, fDiv_ii, fEq, fNe, eqD_int, fIx, atI_0, atI_1, atI_2, lLc, lLc2, iSeq, iCall, fEnum, fZip, wipeD, putD, lSl, lRev, R.to_ok, R.bind_ok]
  · have h3 : ¬ 0 < k := by omega
    by_cases h2 : k ≤ 16 <;> simp [F_is_kind, den_is_kind, dl_is_number, is_number_i, h, h2, h3, runB, env0, sSeq, sRet, sRetN, sIf, sSet, sDrop, sNx, sPar, sAsg, sAttr, sPut, sRaise, Tg.asg, Tg.asgs, eAnd, eOr, eNot, eIf, tAnd, tOr, tNot, tV, tVB, tYes, eCall, eFn, eMk, eMt, eFld, eBM, aC, aN, eV, eC, Z.e1, Z.e2, eTup, eLV, eLN, eChain, eSl, fIsi, tyD, isK, anyK, tNames, rB, tru, fLen, fTuple, fAbs, fInt, fAll, fAny, fIsN, fNotN, fIsB, fNotB, fNeg, seqOf, lstOf, isL, fLt_ii, fLe_ii, fGt_ii, fGe_ii, fSub_ii, fPlus, fMod_ii, fMul_ii, fDiv_ii, fEq, fNe, eqD_int, fIx, atI_0, atI_1, atI_2, lLc, lLc2, iSeq, iCall, fEnum, fZip, wipeD, putD, lSl, lRev, R.to_ok, R.bind_ok]
theorem is_kind_no {d : D} (h : NoI c d) : F_is_kind c [d] S = .ok (.bl false) S := by
  simp [F_is_kind, den_is_kind, dl_is_number, is_number_no c S h, runB, env0, sSeq, sRet, sRetN, sIf, sSet, sDrop, sNx, sPar, sAsg, sAttr, sPut, sRaise, Tg.asg, Tg.asgs, eAnd, eOr, eNot, eIf, tAnd, tOr, tNot, tV, tVB, tYes, eCall, eFn, eMk, eMt, eFld, eBM, aC, aN, eV, eC, Z.e1, Z.e2, eTup, eLV, eLN, eChain, eSl, fIsi, tyD, isK, anyK, tNames, rB, tru, fLen, fTuple, fAbs, fInt, fAll, fAny, fIsN, fNotN, fIsB, fNotB, fNeg, seqOf, lstOf, isL, fLt_ii, fLe_ii, fGt_ii, fGe_ii, fSub_ii, fPlus, fMod_ii, fMul_ii, fDiv_ii, fEq, fNe, eqD_int, fIx, atI_0, atI_1, atI_2, lLc, lLc2, iSeq, iCall, fEnum, fZip, wipeD, putD, lSl, lRev, R.to_ok, R.bind_ok]
/-! ### sequences -/
def Sq (x : D) (ds : List D) : Prop := x = .tup ds ∨ x = .lst ds
theorem is_seq_t (ds : List D) : F_is_sequence c [.tup ds] S = .ok (.bl true) S := by
  simp [F_is_sequence, den_is_sequence, runB, env0, sSeq, sRet, sRetN, sIf, sSet, sDrop, sNx, sPar, sAsg, sAttr, sPut, sRaise, Tg.asg, Tg.asgs, eAnd, eOr, eNot, eIf, tAnd, tOr, tNot, tV, tVB, tYes, eCall, eFn, eMk, eMt, eFld, eBM, aC, aN, eV, eC, Z.e1, Z.e2, eTup, eLV, eLN, eChain, eSl, fIsi, tyD, isK, anyK, tNames, rB, tru, fLen, fTuple, fAbs, fInt, fAll, fAny, fIsN, fNotN, fIsB, fNotB, fNeg, seqOf, lstOf, isL, fLt_ii, fLe_ii, fGt_ii, fGe_ii, fSub_ii, fPlus, fMod_ii, fMul_ii, fDiv_ii, fEq, fNe, eqD_int, fIx, atI_0, atI_1, atI_2, lLc, lLc2, iSeq, iCall, fEnum, fZip, wipeD, putD, lSl, lRev, R.to_ok, R.bind_ok]
theorem is_seq_l (ds : List D) : F_is_sequence c [.lst ds] S = .ok (.bl true) S := by
  simp [F_is_sequence, den_is_sequence, runB, env0, sSeq, sRet, sRetN, sIf, sSet, sDrop, sNx, sPar, sAsg, sAttr, sPut, sRaise, Tg.asg, Tg.asgs, eAnd, eOr, eNot, eIf, tAnd, tOr, tNot, tV, tVB, tYes, eCall, eFn, eMk, eMt, eFld, eBM, aC, aN, eV, eC, Z.e1, Z.e2, eTup, eLV, eLN, eChain, eSl, fIsi, tyD, isK, anyK, tNames, rB, tru, fLen, fTuple, fAbs, fInt, fAll, fAny, fIsN, fNotN, fIsB, fNotB, fNeg, seqOf, lstOf, isL, fLt_ii, fLe_ii, fGt_ii, fGe_ii, fSub_ii, fPlus, fMod_ii, fMul_ii, fDiv_ii, fEq, fNe, eqD_int, fIx, atI_0, atI_1, atI_2, lLc, lLc2, iSeq, iCall, fEnum, fZip, wipeD, putD, lSl, lRev, R.to_ok, R.bind_ok]
theorem is_seq {x : D} {ds : List D} (h : Sq x ds) : F_is_sequence c [x] S = .ok (.bl true) S := by
  rcases h with rfl | rfl
  · exact is_seq_t c S ds
  · exact is_seq_l c S ds
theorem no_seq_non : F_is_sequence c [.non] S = .ok (.bl false) S := by simp [F_is_sequence, den_is_sequence, runB, env0, sSeq, sRet, sRetN, sIf, sSet, sDrop, sNx, sPar, sAsg, sAttr, sPut, sRaise, Tg.asg, Tg.asgs, eAnd, eOr, eNot, eIf, tAnd, tOr, tNot, tV, tVB, tYes, eCall, eFn, eMk, eMt, eFld, eBM, aC, aN, eV, eC, Z.e1, Z.e2, eTup, eLV, eLN, eChain, eSl, fIsi, tyD, isK, anyK, tNames, rB, tru, fLen, fTuple, fAbs, fInt, fAll, fAny, fIsN, fNotN, fIsB, fNotB, fNeg, seqOf, lstOf, isL, fLt_ii, fLe_ii, fGt_ii, fGe_ii, fSub_ii, fPlus, fMod_ii, fMul_ii, fDiv_ii, fEq, fNe, eqD_int, fIx, atI_0, atI_1, atI_2, lLc, lLc2, iSeq, iCall, fEnum, fZip, wipeD, putD, lSl, lRev, R.to_ok, R.bind_ok]
theorem no_seq_int (i : Int) : F_is_sequence c [.int i] S = .ok (.bl false) S := by simp [F_is_sequence, den_is_sequence, runB, env0, sSeq, sRet, sRetN, sIf, sSet, sDrop, sNx, sPar, sAsg, sAttr, sPut, sRaise, Tg.asg, Tg.asgs, eAnd, eOr, eNot, eIf, tAnd, tOr, tNot, tV, tVB, tYes, eCall, eFn, eMk, eMt, eFld, eBM, aC, aN, eV, eC, Z.e1, Z.e2, eTup, eLV, eLN, eChain, eSl, fIsi, tyD, isK, anyK, tNames, rB, tru, fLen, fTuple, fAbs, fInt, fAll, fAny, fIsN, fNotN, fIsB, fNotB, fNeg, seqOf, lstOf, isL, fLt_ii, fLe_ii, fGt_ii, fGe_ii, fSub_ii, fPlus, fMod_ii, fMul_ii, fDiv_ii, fEq, fNe, eqD_int, fIx, atI_0, atI_1, atI_2, lLc, lLc2, iSeq, iCall, fEnum, fZip, wipeD, putD, lSl, lRev, R.to_ok, R.bind_ok]
theorem no_seq_str (s : Str) : F_is_sequence c [.str s] S = .ok (.bl false) S := by simp [F_is_sequence, den_is_sequence, runB, env0, sSeq, sRet, sRetN, sIf, sSet, sDrop, sNx, sPar, sAsg, sAttr, sPut, sRaise, Tg.asg, Tg.asgs, eAnd, eOr, eNot, eIf, tAnd, tOr, tNot, tV, tVB, tYes, eCall, eFn, eMk, eMt, eFld, eBM, aC, aN, eV, eC, Z.e1, Z.e2, eTup, eLV, eLN, eChain, eSl, fIsi, tyD, isK, anyK, tNames, rB, tru, fLen, fTuple, fAbs, fInt, fAll, fAny, fIsN, fNotN, fIsB, fNotB, fNeg, seqOf, lstOf, isL, fLt_ii, fLe_ii, fGt_ii, fGe_ii, fSub_ii, fPlus, fMod_ii, fMul_ii, fDiv_ii, fEq, fNe, eqD_int, fIx, atI_0, atI_1, atI_2, lLc, lLc2, iSeq, iCall, fEnum, fZip, wipeD, putD, lSl, lRev, R.to_ok, R.bind_ok]
theorem no_seq_dct {n : Nat} {kvs : List (Key × D)} (h : S[n]? = some (.dct kvs)) : F_is_sequence c [.ref n] S = .ok (.bl false) S := by simp [F_is_sequence, den_is_sequence, h, runB, env0, sSeq, sRet, sRetN, sIf, sSet, sDrop, sNx, sPar, sAsg, sAttr, sPut, sRaise, Tg.asg, Tg.asgs, eAnd, eOr, eNot, eIf, tAnd, tOr, tNot, tV, tVB, tYes, eCall, eFn, eMk, eMt, eFld, eBM, aC, aN, eV, eC, Z.e1, Z.e2, eTup, eLV, eLN, eChain, eSl, fIsi, tyD, isK, anyK, tNames, rB, tru, fLen, fTuple, fAbs, fInt, fAll, fAny, fIsN, fNotN, fIsB, fNotB, fNeg, seqOf, lstOf, isL, fLt_ii, fLe_ii, fGt_ii, fGe_ii, fSub_ii, fPlus, fMod_ii, fMul_ii, fDiv_ii, fEq, fNe, eqD_int, fIx, atI_0, atI_1, atI_2, lLc, lLc2, iSeq, iCall, fEnum, fZip, wipeD, putD, lSl, lRev, R.to_ok, R.bind_ok]
theorem call_row_ok {x : D} (a b : Int) (hx : Sq x [.int a, .int b]) (h1 : 0 < a) (h2 : a ≤ 16) (h3 : 0 < b) (h4 : b ≤ 16) : F_is_call_row c [x] S = .ok (.bl true) S := by
  rcases hx with rfl | rfl <;> simp [F_is_call_row, den_is_call_row, dl_is_kind, dl_is_sequence, is_seq_t, is_seq_l, lcI, is_kind_i, h1, h2, h3, h4, bools, runB, env0, sSeq, sRet, sRetN, sIf, sSet, sDrop, sNx, sPar, sAsg, sAttr, sPut, sRaise, Tg.asg, Tg.asgs, eAnd, eOr, eNot, eIf, tAnd, tOr, tNot, tV, tVB, tYes, eCall, eFn, eMk, eMt, eFld, eBM, aC, aN, eV, eC, Z.e1, Z.e2, eTup, eLV, eLN, eChain, eSl, fIsi, tyD, isK, anyK, tNames, rB, tru, fLen, fTuple, fAbs, fInt, fAll, fAny, fIsN, fNotN, fIsB, fNotB, fNeg, seqOf, lstOf, isL, fLt_ii, fLe_ii, fGt_ii, fGe_ii, fSub_ii, fPlus, fMod_ii, fMul_ii, fDiv_ii, fEq, fNe, eqD_int, fIx, atI_0, atI_1, atI_2, lLc, lLc2, iSeq, iCall, fEnum, fZip, wipeD, putD, lSl, lRev, R.to_ok, R.bind_ok]
/-! ### pairs -/
def pD (p : Nat × Nat) : D := .tup [.int p.1, .int p.2]
def lotD (l : List (Nat × Nat)) : D := .tup (l.map pD)
def ltP (p q : Nat × Nat) : Prop := p.1 < q.1 ∨ p.1 = q.1 ∧ p.2 < q.2
instance (p q : Nat × Nat) : Decidable (ltP p q) := by unfold ltP; infer_instance
theorem lex2 (p q : Nat × Nat) : HT.lexLt [(p.1 : Int), p.2] [(q.1 : Int), q.2] = decide (ltP p q) := by
  unfold ltP
  rw [HT.lexLt_cons, HT.lexLt_cons, HT.lexLt_nil_nil]
  by_cases h2 : p.1 = q.1
  · rw [if_pos (by omega)]
    by_cases h3 : p.2 = q.2
    · rw [if_pos (by omega)]
      exact (decide_eq_false (by omega)).symm
    · rw [if_neg (by omega)]
      exact decide_eq_decide.mpr (by omega)
  · rw [if_neg (by omega)]
    exact decide_eq_decide.mpr (by omega)
theorem fLtA_pD (p q : Nat × Nat) : fLtA (pD p) (pD q) S = .ok (.bl (decide (ltP p q))) S := by
  simp [fLtA, pD, intsD, lex2]
structure In (k n : Nat) (p : Nat × Nat) : Prop where
  a : p.1 < k
  b : p.2 < n
theorem pair_of_ok (k n : Nat) (p : Nat × Nat) (h : In k n p) : F_is_pair_of c [pD p, .int k, .int n] S = .ok (.bl true) S := by
  have h1 := h.a
  have h2 := h.b
  have g1 : (p.1 : Int) ≤ k - 1 := by omega
  have g2 : (p.2 : Int) ≤ n - 1 := by omega
  simp [F_is_pair_of, den_is_pair_of, dl_is_number, is_number_i, pD, g1, g2, runB, env0, sSeq, sRet, sRetN, sIf, sSet, sDrop, sNx, sPar, sAsg, sAttr, sPut, sRaise, Tg.asg, Tg.asgs, eAnd, eOr, eNot, eIf, tAnd, tOr, tNot, tV, tVB, tYes, eCall, eFn, eMk, eMt, eFld, eBM, aC, aN, eV, eC, Z.e1, Z.e2, eTup, eLV, eLN, eChain, eSl, fIsi, tyD, isK, anyK, tNames, rB, tru, fLen, fTuple, fAbs, fInt, fAll, fAny, fIsN, fNotN, fIsB, fNotB, fNeg, seqOf, lstOf, isL, fLt_ii, fLe_ii, fGt_ii, fGe_ii, fSub_ii, fPlus, fMod_ii, fMul_ii, fDiv_ii, fEq, fNe, eqD_int, fIx, atI_0, atI_1, atI_2, lLc, lLc2, iSeq, iCall, fEnum, fZip, wipeD, putD, lSl, lRev, R.to_ok, R.bind_ok]
theorem asc1 (d : D) : F_is_ascending c [.tup [d]] S = .ok (.bl true) S := by
  simp [F_is_ascending, den_is_ascending, iR2, rgOk, iRow, lcI, bools, runB, env0, sSeq, sRet, sRetN, sIf, sSet, sDrop, sNx, sPar, sAsg, sAttr, sPut, sRaise, Tg.asg, Tg.asgs, eAnd, eOr, eNot, eIf, tAnd, tOr, tNot, tV, tVB, tYes, eCall, eFn, eMk, eMt, eFld, eBM, aC, aN, eV, eC, Z.e1, Z.e2, eTup, eLV, eLN, eChain, eSl, fIsi, tyD, isK, anyK, tNames, rB, tru, fLen, fTuple, fAbs, fInt, fAll, fAny, fIsN, fNotN, fIsB, fNotB, fNeg, seqOf, lstOf, isL, fLt_ii, fLe_ii, fGt_ii, fGe_ii, fSub_ii, fPlus, fMod_ii, fMul_ii, fDiv_ii, fEq, fNe, eqD_int, fIx, atI_0, atI_1, atI_2, lLc, lLc2, iSeq, iCall, fEnum, fZip, wipeD, putD, lSl, lRev, R.to_ok, R.bind_ok]
theorem asc2 (p q : Nat × Nat) : F_is_ascending c [.tup [pD p, pD q]] S = .ok (.bl (decide (ltP p q))) S := by
  have e1 : List.range (2 - 1) = [0] := by decide
  simp [F_is_ascending, den_is_ascending, iR2, rgOk, iRow, lcI, bools, fLtA_pD, List.range_succ, runB, env0, sSeq, sRet, sRetN, sIf, sSet, sDrop, sNx, sPar, sAsg, sAttr, sPut, sRaise, Tg.asg, Tg.asgs, eAnd, eOr, eNot, eIf, tAnd, tOr, tNot, tV, tVB, tYes, eCall, eFn, eMk, eMt, eFld, eBM, aC, aN, eV, eC, Z.e1, Z.e2, eTup, eLV, eLN, eChain, eSl, fIsi, tyD, isK, anyK, tNames, rB, tru, fLen, fTuple, fAbs, fInt, fAll, fAny, fIsN, fNotN, fIsB, fNotB, fNeg, seqOf, lstOf, isL, fLt_ii, fLe_ii, fGt_ii, fGe_ii, fSub_ii, fPlus, fMod_ii, fMul_ii, fDiv_ii, fEq, fNe, eqD_int, fIx, atI_0, atI_1, atI_2, lLc, lLc2, iSeq, iCall, fEnum, fZip, wipeD, putD, lSl, lRev, R.to_ok, R.bind_ok]
theorem asc3 (p q r : Nat × Nat) : F_is_ascending c [.tup [pD p, pD q, pD r]] S = .ok (.bl (decide (ltP p q) && decide (ltP q r))) S := by
  simp [F_is_ascending, den_is_ascending, iR2, rgOk, iRow, lcI, bools, fLtA_pD, List.range_succ, runB, env0, sSeq, sRet, sRetN, sIf, sSet, sDrop, sNx, sPar, sAsg, sAttr, sPut, sRaise, Tg.asg, Tg.asgs, eAnd, eOr, eNot, eIf, tAnd, tOr, tNot, tV, tVB, tYes, eCall, eFn, eMk, eMt, eFld, eBM, aC, aN, eV, eC, Z.e1, Z.e2, eTup, eLV, eLN, eChain, eSl, fIsi, tyD, isK, anyK, tNames, rB, tru, fLen, fTuple, fAbs, fInt, fAll, fAny, fIsN, fNotN, fIsB, fNotB, fNeg, seqOf, lstOf, isL, fLt_ii, fLe_ii, fGt_ii, fGe_ii, fSub_ii, fPlus, fMod_ii, fMul_ii, fDiv_ii, fEq, fNe, eqD_int, fIx, atI_0, atI_1, atI_2, lLc, lLc2, iSeq, iCall, fEnum, fZip, wipeD, putD, lSl, lRev, R.to_ok, R.bind_ok]
def LotOk (k n : Nat) (l : List (Nat × Nat)) : Prop := (∃ p, l = [p] ∧ In k n p) ∨ ∃ p q, l = [p, q] ∧ In k n p ∧ In k n q ∧ ltP p q
theorem are_pairs_ok (k n : Nat) (l : List (Nat × Nat)) (h : LotOk k n l) : F_are_pairs c [lotD l, .int k, .int n] S = .ok (.bl true) S := by
  rcases h with ⟨p, rfl, h⟩ | ⟨p, q, rfl, h1, h2, h3⟩
  · simp [F_are_pairs, den_are_pairs, dl_is_pair_of, dl_is_ascending, lotD, lcI, pair_of_ok c _ k n p h, asc1, bools, runB, env0, sSeq, sRet, sRetN, sIf, sSet, sDrop, sNx, sPar, sAsg, sAttr, sPut, sRaise, Tg.asg, Tg.asgs, eAnd, eOr, eNot, eIf, tAnd, tOr, tNot, tV, tVB, tYes, eCall, eFn, eMk, eMt, eFld, eBM, aC, aN, eV, eC, Z.e1, Z.e2, eTup, eLV, eLN, eChain, eSl, fIsi, tyD, isK, anyK, tNames, rB, tru, fLen, fTuple, fAbs, fInt, fAll, fAny, fIsN, fNotN, fIsB, fNotB, fNeg, seqOf, lstOf, isL, fLt_ii, fLe_ii, fGt_ii, fGe_ii, fSub_ii, fPlus, fMod_ii, fMul_ii, fDiv_ii, fEq, fNe, eqD_int, fIx, atI_0, atI_1, atI_2, lLc, lLc2, iSeq, iCall, fEnum, fZip, wipeD, putD, lSl, lRev, R.to_ok, R.bind_ok]
  · simp [F_are_pairs, den_are_pairs, dl_is_pair_of, dl_is_ascending, lotD, lcI, pair_of_ok c _ k n p h1, pair_of_ok c _ k n q h2, asc2, h3, bools, runB, env0, sSeq, sRet, sRetN, sIf, sSet, sDrop, sNx, sPar, sAsg, sAttr, sPut, sRaise, Tg.asg, Tg.asgs, eAnd, eOr, eNot, eIf, tAnd, tOr, tNot, tV, tVB, tYes, eCall, eFn, eMk, eMt, eFld, eBM, aC, aN, eV, eC, Z.e1, Z.e2, eTup, eLV, eLN, eChain, eSl, fIsi, tyD, isK, anyK, tNames, rB, tru, fLen, fTuple, fAbs, fInt, fAll, fAny, fIsN, fNotN, fIsB, fNotB, fNeg, seqOf, lstOf, isL, fLt_ii, fLe_ii, fGt_ii, fGe_ii, fSub_ii, fPlus, fMod_ii, fMul_ii, fDiv_ii, fEq, fNe, eqD_int, fIx, atI_0, atI_1, atI_2, lLc, lLc2, iSeq, iCall, fEnum, fZip, wipeD, putD, lSl, lRev, R.to_ok, R.bind_ok]
/-! ### values that are no lots -/
def NoL (c : Ad) (k n : Nat) (d : D) : Prop := ∀ S, F_are_pairs c [d, .int k, .int n] S = .ok (.bl false) S
variable (k n : Nat)
theorem noL_emp : NoL c k n (.tup []) := fun S => by simp [F_are_pairs, den_are_pairs, runB, env0, sSeq, sRet, sRetN, sIf, sSet, sDrop, sNx, sPar, sAsg, sAttr, sPut, sRaise, Tg.asg, Tg.asgs, eAnd, eOr, eNot, eIf, tAnd, tOr, tNot, tV, tVB, tYes, eCall, eFn, eMk, eMt, eFld, eBM, aC, aN, eV, eC, Z.e1, Z.e2, eTup, eLV, eLN, eChain, eSl, fIsi, tyD, isK, anyK, tNames, rB, tru, fLen, fTuple, fAbs, fInt, fAll, fAny, fIsN, fNotN, fIsB, fNotB, fNeg, seqOf, lstOf, isL, fLt_ii, fLe_ii, fGt_ii, fGe_ii, fSub_ii, fPlus, fMod_ii, fMul_ii, fDiv_ii, fEq, fNe, eqD_int, fIx, atI_0, atI_1, atI_2, lLc, lLc2, iSeq, iCall, fEnum, fZip, wipeD, putD, lSl, lRev, R.to_ok, R.bind_ok]
theorem noL_non : NoL c k n .non := fun S => by simp [F_are_pairs, den_are_pairs, runB, env0, sSeq, sRet, sRetN, sIf, sSet, sDrop, sNx, sPar, sAsg, sAttr, sPut, sRaise, Tg.asg, Tg.asgs, eAnd, eOr, eNot, eIf, tAnd, tOr, tNot, tV, tVB, tYes, eCall, eFn, eMk, eMt, eFld, eBM, aC, aN, eV, eC, Z.e1, Z.e2, eTup, eLV, eLN, eChain, eSl, fIsi, tyD, isK, anyK, tNames, rB, tru, fLen, fTuple, fAbs, fInt, fAll, fAny, fIsN, fNotN, fIsB, fNotB, fNeg, seqOf, lstOf, isL, fLt_ii, fLe_ii, fGt_ii, fGe_ii, fSub_ii, fPlus, fMod_ii, fMul_ii, fDiv_ii, fEq, fNe, eqD_int, fIx, atI_0, atI_1, atI_2, lLc, lLc2, iSeq, iCall, fEnum, fZip, wipeD, putD, lSl, lRev, R.to_ok, R.bind_ok]
theorem noL_lst (ds : List D) : NoL c k n (.lst ds) := fun S => by simp [F_are_pairs, den_are_pairs, runB, env0, sSeq, sRet, sRetN, sIf, sSet, sDrop, sNx, sPar, sAsg, sAttr, sPut, sRaise, Tg.asg, Tg.asgs, eAnd, eOr, eNot, eIf, tAnd, tOr, tNot, tV, tVB, tYes, eCall, eFn, eMk, eMt, eFld, eBM, aC, aN, eV, eC, Z.e1, Z.e2, eTup, eLV, eLN, eChain, eSl, fIsi, tyD, isK, anyK, tNames, rB, tru, fLen, fTuple, fAbs, fInt, fAll, fAny, fIsN, fNotN, fIsB, fNotB, fNeg, seqOf, lstOf, isL, fLt_ii, fLe_ii, fGt_ii, fGe_ii, fSub_ii, fPlus, fMod_ii, fMul_ii, fDiv_ii, fEq, fNe, eqD_int, fIx, atI_0, atI_1, atI_2, lLc, lLc2, iSeq, iCall, fEnum, fZip, wipeD, putD, lSl, lRev, R.to_ok, R.bind_ok]
theorem noL_twice (l : List (Nat × Nat)) (h : LotOk k n l) : NoL c k n (.tup (l.map pD ++ (l.take 1).map pD)) := fun S => by
  rcases h with ⟨p, rfl, h⟩ | ⟨p, q, rfl, h1, h2, h3⟩
  · have e : ¬ ltP p p := by unfold ltP; omega
    simp [F_are_pairs, den_are_pairs, dl_is_pair_of, dl_is_ascending, lcI, pair_of_ok c _ k n p h, asc2, e, bools, runB, env0, sSeq, sRet, sRetN, sIf, sSet, sDrop, sNx, sPar, sAsg, sAttr, sPut, sRaise, Tg.asg, Tg.asgs, eAnd, eOr, eNot, eIf, tAnd, tOr, tNot, tV, tVB, tYes, eCall, eFn, eMk, eMt, eFld, eBM, aC, aN, eV, eC, Z.e1, Z.e2, eTup, eLV, eLN, eChain, eSl, fIsi, tyD, isK, anyK, tNames, rB, tru, fLen, fTuple, fAbs, fInt, fAll, fAny, fIsN, fNotN, fIsB, fNotB, fNeg, seqOf, lstOf, isL, fLt_ii, fLe_ii, fGt_ii, fGe_ii, fSub_ii, fPlus, fMod_ii, fMul_ii, fDiv_ii, fEq, fNe, eqD_int, fIx, atI_0, atI_1, atI_2, lLc, lLc2, iSeq, iCall, fEnum, fZip, wipeD, putD, lSl, lRev, R.to_ok, R.bind_ok]
  · have e : ¬ ltP q p := by unfold ltP at *; omega
    simp [F_are_pairs, den_are_pairs, dl_is_pair_of, dl_is_ascending, lcI, pair_of_ok c _ k n p h1, pair_of_ok c _ k n q h2, asc3, h3, e, bools, runB, env0, sSeq, sRet, sRetN, sIf, sSet, sDrop, sNx, sPar, sAsg, sAttr, sPut, sRaise, Tg.asg, Tg.asgs, eAnd, eOr, eNot, eIf, tAnd, tOr, tNot, tV, tVB, tYes, eCall, eFn, eMk, eMt, eFld, eBM, aC, aN, eV, eC, Z.e1, Z.e2, eTup, eLV, eLN, eChain, eSl, fIsi, tyD, isK, anyK, tNames, rB, tru, fLen, fTuple, fAbs, fInt, fAll, fAny, fIsN, fNotN, fIsB, fNotB, fNeg, seqOf, lstOf, isL, fLt_ii, fLe_ii, fGt_ii, fGe_ii, fSub_ii, fPlus, fMod_ii, fMul_ii, fDiv_ii, fEq, fNe, eqD_int, fIx, atI_0, atI_1, atI_2, lLc, lLc2, iSeq, iCall, fEnum, fZip, wipeD, putD, lSl, lRev, R.to_ok, R.bind_ok]
theorem noL_one {d : D} (h : ∀ S, F_is_pair_of c [d, .int k, .int n] S = .ok (.bl false) S) : NoL c k n (.tup [d]) := fun S => by
  simp [F_are_pairs, den_are_pairs, dl_is_pair_of, dl_is_ascending, lcI, h, bools, runB, env0, sSeq, sRet, sRetN, sIf, sSet, sDrop, sNx, sPar, sAsg, sAttr, sPut, sRaise, Tg.asg, Tg.asgs, eAnd, eOr, eNot, eIf, tAnd, tOr, tNot, tV, tVB, tYes, eCall, eFn, eMk, eMt, eFld, eBM, aC, aN, eV, eC, Z.e1, Z.e2, eTup, eLV, eLN, eChain, eSl, fIsi, tyD, isK, anyK, tNames, rB, tru, fLen, fTuple, fAbs, fInt, fAll, fAny, fIsN, fNotN, fIsB, fNotB, fNeg, seqOf, lstOf, isL, fLt_ii, fLe_ii, fGt_ii, fGe_ii, fSub_ii, fPlus, fMod_ii, fMul_ii, fDiv_ii, fEq, fNe, eqD_int, fIx, atI_0, atI_1, atI_2, lLc, lLc2, iSeq, iCall, fEnum, fZip, wipeD, putD, lSl, lRev, R.to_ok, R.bind_ok]
theorem noP_told (b : Int) : F_is_pair_of c [.tup [.int k, .int b], .int k, .int n] S = .ok (.bl false) S := by
  have g : ¬ (k : Int) ≤ k - 1 := by omega
  simp [F_is_pair_of, den_is_pair_of, dl_is_number, is_number_i, g, runB, env0, sSeq, sRet, sRetN, sIf, sSet, sDrop, sNx, sPar, sAsg, sAttr, sPut, sRaise, Tg.asg, Tg.asgs, eAnd, eOr, eNot, eIf, tAnd, tOr, tNot, tV, tVB, tYes, eCall, eFn, eMk, eMt, eFld, eBM, aC, aN, eV, eC, Z.e1, Z.e2, eTup, eLV, eLN, eChain, eSl, fIsi, tyD, isK, anyK, tNames, rB, tru, fLen, fTuple, fAbs, fInt, fAll, fAny, fIsN, fNotN, fIsB, fNotB, fNeg, seqOf, lstOf, isL, fLt_ii, fLe_ii, fGt_ii, fGe_ii, fSub_ii, fPlus, fMod_ii, fMul_ii, fDiv_ii, fEq, fNe, eqD_int, fIx, atI_0, atI_1, atI_2, lLc, lLc2, iSeq, iCall, fEnum, fZip, wipeD, putD, lSl, lRev, R.to_ok, R.bind_ok]
theorem noP_many (h : 0 < k) : F_is_pair_of c [.tup [.int 0, .int n], .int k, .int n] S = .ok (.bl false) S := by
  have g : (1 : Int) ≤ k := by omega
  have g2 : ¬ (n : Int) ≤ n - 1 := by omega
  simp [F_is_pair_of, den_is_pair_of, dl_is_number, is_number_i, g, g2, runB, env0, sSeq, sRet, sRetN, sIf, sSet, sDrop, sNx, sPar, sAsg, sAttr, sPut, sRaise, Tg.asg, Tg.asgs, eAnd, eOr, eNot, eIf, tAnd, tOr, tNot, tV, tVB, tYes, eCall, eFn, eMk, eMt, eFld, eBM, aC, aN, eV, eC, Z.e1, Z.e2, eTup, eLV, eLN, eChain, eSl, fIsi, tyD, isK, anyK, tNames, rB, tru, fLen, fTuple, fAbs, fInt, fAll, fAny, fIsN, fNotN, fIsB, fNotB, fNeg, seqOf, lstOf, isL, fLt_ii, fLe_ii, fGt_ii, fGe_ii, fSub_ii, fPlus, fMod_ii, fMul_ii, fDiv_ii, fEq, fNe, eqD_int, fIx, atI_0, atI_1, atI_2, lLc, lLc2, iSeq, iCall, fEnum, fZip, wipeD, putD, lSl, lRev, R.to_ok, R.bind_ok]
theorem noP_1 (a : D) : F_is_pair_of c [.tup [a], .int k, .int n] S = .ok (.bl false) S := by simp [F_is_pair_of, den_is_pair_of, runB, env0, sSeq, sRet, sRetN, sIf, sSet, sDrop, sNx, sPar, sAsg, sAttr, sPut, sRaise, Tg.asg, Tg.asgs, eAnd, eOr, eNot, eIf, tAnd, tOr, tNot, tV, tVB, tYes, eCall, eFn, eMk, eMt, eFld, eBM, aC, aN, eV, eC, Z.e1, Z.e2, eTup, eLV, eLN, eChain, eSl, fIsi, tyD, isK, anyK, tNames, rB, tru, fLen, fTuple, fAbs, fInt, fAll, fAny, fIsN, fNotN, fIsB, fNotB, fNeg, seqOf, lstOf, isL, fLt_ii, fLe_ii, fGt_ii, fGe_ii, fSub_ii, fPlus, fMod_ii, fMul_ii, fDiv_ii, fEq, fNe, eqD_int, fIx, atI_0, atI_1, atI_2, lLc, lLc2, iSeq, iCall, fEnum, fZip, wipeD, putD, lSl, lRev, R.to_ok, R.bind_ok]
theorem noP_3 (a b d : D) : F_is_pair_of c [.tup [a, b, d], .int k, .int n] S = .ok (.bl false) S := by simp [F_is_pair_of, den_is_pair_of, runB, env0, sSeq, sRet, sRetN, sIf, sSet, sDrop, sNx, sPar, sAsg, sAttr, sPut, sRaise, Tg.asg, Tg.asgs, eAnd, eOr, eNot, eIf, tAnd, tOr, tNot, tV, tVB, tYes, eCall, eFn, eMk, eMt, eFld, eBM, aC, aN, eV, eC, Z.e1, Z.e2, eTup, eLV, eLN, eChain, eSl, fIsi, tyD, isK, anyK, tNames, rB, tru, fLen, fTuple, fAbs, fInt, fAll, fAny, fIsN, fNotN, fIsB, fNotB, fNeg, seqOf, lstOf, isL, fLt_ii, fLe_ii, fGt_ii, fGe_ii, fSub_ii, fPlus, fMod_ii, fMul_ii, fDiv_ii, fEq, fNe, eqD_int, fIx, atI_0, atI_1, atI_2, lLc, lLc2, iSeq, iCall, fEnum, fZip, wipeD, putD, lSl, lRev, R.to_ok, R.bind_ok]
theorem noP_lst (a : List D) : F_is_pair_of c [.lst a, .int k, .int n] S = .ok (.bl false) S := by simp [F_is_pair_of, den_is_pair_of, runB, env0, sSeq, sRet, sRetN, sIf, sSet, sDrop, sNx, sPar, sAsg, sAttr, sPut, sRaise, Tg.asg, Tg.asgs, eAnd, eOr, eNot, eIf, tAnd, tOr, tNot, tV, tVB, tYes, eCall, eFn, eMk, eMt, eFld, eBM, aC, aN, eV, eC, Z.e1, Z.e2, eTup, eLV, eLN, eChain, eSl, fIsi, tyD, isK, anyK, tNames, rB, tru, fLen, fTuple, fAbs, fInt, fAll, fAny, fIsN, fNotN, fIsB, fNotB, fNeg, seqOf, lstOf, isL, fLt_ii, fLe_ii, fGt_ii, fGe_ii, fSub_ii, fPlus, fMod_ii, fMul_ii, fDiv_ii, fEq, fNe, eqD_int, fIx, atI_0, atI_1, atI_2, lLc, lLc2, iSeq, iCall, fEnum, fZip, wipeD, putD, lSl, lRev, R.to_ok, R.bind_ok]
theorem noP_neg (b : D) : F_is_pair_of c [.tup [.int (-1), b], .int k, .int n] S = .ok (.bl false) S := by
  simp [F_is_pair_of, den_is_pair_of, dl_is_number, is_number_i, runB, env0, sSeq, sRet, sRetN, sIf, sSet, sDrop, sNx, sPar, sAsg, sAttr, sPut, sRaise, Tg.asg, Tg.asgs, eAnd, eOr, eNot, eIf, tAnd, tOr, tNot, tV, tVB, tYes, eCall, eFn, eMk, eMt, eFld, eBM, aC, aN, eV, eC, Z.e1, Z.e2, eTup, eLV, eLN, eChain, eSl, fIsi, tyD, isK, anyK, tNames, rB, tru, fLen, fTuple, fAbs, fInt, fAll, fAny, fIsN, fNotN, fIsB, fNotB, fNeg, seqOf, lstOf, isL, fLt_ii, fLe_ii, fGt_ii, fGe_ii, fSub_ii, fPlus, fMod_ii, fMul_ii, fDiv_ii, fEq, fNe, eqD_int, fIx, atI_0, atI_1, atI_2, lLc, lLc2, iSeq, iCall, fEnum, fZip, wipeD, putD, lSl, lRev, R.to_ok, R.bind_ok]
theorem noP_a {a : D} (h : NoI c a) (b : D) : F_is_pair_of c [.tup [a, b], .int k, .int n] S = .ok (.bl false) S := by
  simp [F_is_pair_of, den_is_pair_of, dl_is_number, is_number_no c _ h, runB, env0, sSeq, sRet, sRetN, sIf, sSet, sDrop, sNx, sPar, sAsg, sAttr, sPut, sRaise, Tg.asg, Tg.asgs, eAnd, eOr, eNot, eIf, tAnd, tOr, tNot, tV, tVB, tYes, eCall, eFn, eMk, eMt, eFld, eBM, aC, aN, eV, eC, Z.e1, Z.e2, eTup, eLV, eLN, eChain, eSl, fIsi, tyD, isK, anyK, tNames, rB, tru, fLen, fTuple, fAbs, fInt, fAll, fAny, fIsN, fNotN, fIsB, fNotB, fNeg, seqOf, lstOf, isL, fLt_ii, fLe_ii, fGt_ii, fGe_ii, fSub_ii, fPlus, fMod_ii, fMul_ii, fDiv_ii, fEq, fNe, eqD_int, fIx, atI_0, atI_1, atI_2, lLc, lLc2, iSeq, iCall, fEnum, fZip, wipeD, putD, lSl, lRev, R.to_ok, R.bind_ok]
theorem noP_b {b : D} (h : NoI c b) (i : Int) : F_is_pair_of c [.tup [.int i, b], .int k, .int n] S = .ok (.bl false) S := by
  by_cases g : 0 ≤ i ∧ i ≤ (k : Int) - 1
  · simp [F_is_pair_of, den_is_pair_of, dl_is_number, is_number_no c _ h, is_number_i, g.1, g.2, runB, env0, sSeq, sRet, sRetN, sIf, sSet, sDrop, sNx, sPar, sAsg, sAttr, sPut, sRaise, Tg.asg, Tg.asgs, eAnd, eOr, eNot, eIf, tAnd, tOr, tNot, tV, tVB, tYes, eCall, eFn, eMk, eMt, eFld, eBM, aC, aN, eV, eC, Z.e1, Z.e2, eTup, eLV, eLN, eChain, eSl, fIsi, tyD, isK, anyK, tNames, rB, tru, fLen, fTuple, fAbs, fInt, fAll, fAny, fIsN, fNotN, fIsB, fNotB, fNeg, seqOf, lstOf, isL, fLt_ii, fLe_ii, fGt_ii, fGe_ii, fSub_ii, fPlus, fMod_ii, fMul_ii, fDiv_ii, fEq, fNe, eqD_int, fIx, atI_0, atI_1, atI_2, lLc, lLc2, iSeq, iCall, fEnum, fZip, wipeD, putD, lSl, lRev, R.to_ok, R.bind_ok]
  · have e : (decide (0 ≤ i) && decide (i ≤ (k : Int) - 1)) = false := by
      rw [Bool.and_eq_false_iff]
      by_cases g1 : 0 ≤ i
      · exact .inr (decide_eq_false fun g2 => g ⟨g1, g2⟩)
      · exact .inl (decide_eq_false g1)
    simp only [F_is_pair_of, den_is_pair_of, dl_is_number, is_number_i, e, runB, env0, sSeq, sRet, sRetN, sIf, sSet, sDrop, sNx, sPar, sAsg, sAttr, sPut, sRaise, Tg.asg, Tg.asgs, eAnd, eOr, eNot, eIf, tAnd, tOr, tNot, tV, tVB, tYes, eCall, eFn, eMk, eMt, eFld, eBM, aC, aN, eV, eC, Z.e1, Z.e2, eTup, eLV, eLN, eChain, eSl, fIsi, tyD, isK, anyK, tNames, rB, tru, fLen, fTuple, fAbs, fInt, fAll, fAny, fIsN, fNotN, fIsB, fNotB, fNeg, seqOf, lstOf, isL, fLt_ii, fLe_ii, fGt_ii, fGe_ii, fSub_ii, fPlus, fMod_ii, fMul_ii, fDiv_ii, fEq, fNe, eqD_int, fIx, atI_0, atI_1, atI_2, lLc, lLc2, iSeq, iCall, fEnum, fZip, wipeD, putD, lSl, lRev, R.to_ok, R.bind_ok]
    simp [F_is_pair_of, den_is_pair_of, dl_is_number, is_number_i, e, runB, env0, sSeq, sRet, sRetN, sIf, sSet, sDrop, sNx, sPar, sAsg, sAttr, sPut, sRaise, Tg.asg, Tg.asgs, eAnd, eOr, eNot, eIf, tAnd, tOr, tNot, tV, tVB, tYes, eCall, eFn, eMk, eMt, eFld, eBM, aC, aN, eV, eC, Z.e1, Z.e2, eTup, eLV, eLN, eChain, eSl, fIsi, tyD, isK, anyK, tNames, rB, tru, fLen, fTuple, fAbs, fInt, fAll, fAny, fIsN, fNotN, fIsB, fNotB, fNeg, seqOf, lstOf, isL, fLt_ii, fLe_ii, fGt_ii, fGe_ii, fSub_ii, fPlus, fMod_ii, fMul_ii, fDiv_ii, fEq, fNe, eqD_int, fIx, atI_0, atI_1, atI_2, lLc, lLc2, iSeq, iCall, fEnum, fZip, wipeD, putD, lSl, lRev, R.to_ok, R.bind_ok]
end Z.k01
namespace Z.k01
open PySem L2 Z
variable (c : Ad) (S : Sto)
/-! ### loops that stop -/
theorem forI_stop {tg : Tg} {b : DS} (P : Env → Sto → Prop) {x : D} {d : D} {ds2 : List D} {S0 : Sto} : ∀ (ds1 : List D) (ρ : Env) (S : Sto), P ρ S →
    (∀ e ∈ ds1, ∀ ρ S, P ρ S → ∃ ρ1, Tg.asg S tg e ρ = some ρ1 ∧ ∃ ρ' S', (b ρ1 S = .nx ρ' S' ∨ b ρ1 S = .ct ρ' S') ∧ P ρ' S') →
    (∀ ρ S, P ρ S → ∃ ρ1, Tg.asg S tg d ρ = some ρ1 ∧ b ρ1 S = .rt x S0) → forI tg b (fun _ => True) (ds1 ++ d :: ds2) ρ S = .rt x S0
  | [], ρ, S, h, _, h2 => by
    obtain ⟨ρ1, e1, e2⟩ := h2 ρ S h
    simp [forI, e1, e2]
  | e :: ds1, ρ, S, h, h1, h2 => by
    obtain ⟨ρ1, e1, ρ', S', e2, e3⟩ := h1 e (List.mem_cons_self ..) ρ S h
    have ih := forI_stop (ds2 := ds2) P ds1 ρ' S' e3 (fun y hy => h1 y (List.mem_cons_of_mem _ hy)) h2
    rcases e2 with e2 | e2 <;> simp [forI, e1, e2, ih]
theorem iRow_split (n v : Nat) (h : v < n) : iRow 0 n = iRow 0 v ++ .int (v : Nat) :: iRow ((v + 1 : Nat) : Int) (n - v - 1) := by
  apply List.ext_getElem?
  intro i
  by_cases h1 : i < v
  · rw [List.getElem?_append_left (by rw [iRow_len]; exact h1), iRow_get 0 n i (by omega), iRow_get 0 v i h1]
  · rw [List.getElem?_append_right (by rw [iRow_len]; omega), iRow_len]
    by_cases h2 : i = v
    · subst h2
      rw [iRow_get 0 n i h]
      simp
    · have e : i - v = (i - v - 1) + 1 := by omega
      rw [e, List.getElem?_cons_succ]
      by_cases h3 : i < n
      · rw [iRow_get 0 n i h3, iRow_get _ _ _ (by omega)]
        congr 2
        omega
      · rw [List.getElem?_eq_none (by rw [iRow_len]; omega), List.getElem?_eq_none (by rw [iRow_len]; omega)]
theorem enumF_app : ∀ (xs ys : List D) (k : Nat), enumF k (xs ++ ys) = enumF k xs ++ enumF (k + xs.length) ys
  | [], ys, k => by simp [enumF]
  | x :: xs, ys, k => by
    rw [List.cons_append]
    show D.tup [.int (k : Nat), x] :: enumF (k + 1) (xs ++ ys) = (D.tup [.int (k : Nat), x] :: enumF (k + 1) xs) ++ _
    rw [enumF_app xs ys (k + 1), List.cons_append, List.length_cons]
    congr 3
    omega
theorem enum_split (xs : List D) (i : Nat) (x : D) (h : xs[i]? = some x) : enumF 0 xs = enumF 0 (xs.take i) ++ .tup [.int (i : Nat), x] :: enumF (i + 1) (xs.drop (i + 1)) := by
  obtain ⟨hi, e⟩ := List.getElem?_eq_some_iff.mp h
  have e1 : xs = xs.take i ++ x :: xs.drop (i + 1) := by
    rw [← e, ← List.drop_eq_getElem_cons hi, List.take_append_drop]
  conv => lhs; rw [e1]
  rw [enumF_app]
  have e2 : (xs.take i).length = i := by simp; omega
  rw [e2, Nat.zero_add]
  rfl
/-! ### sequences, used -/
section
variable {x : D} {ds : List D}
theorem sq_of (h : Sq x ds) : seqOf S x = some ds := by rcases h with rfl | rfl <;> rfl
theorem len_sq (h : Sq x ds) : fLen [x] S = .ok (.int ds.length) S := by rcases h with rfl | rfl <;> simp [fLen, seqOf]
theorem ix_sq (h : Sq x ds) {i : Nat} {y : D} (e : ds[i]? = some y) : fIx x (.int (i : Nat)) S = .ok y S := by
  rcases h with rfl | rfl <;> simp [fIx, atI_nat, e]
theorem enum_sq (h : Sq x ds) : fEnum [x] S = .ok (enumF 0 ds, fun _ => True) S := by rcases h with rfl | rfl <;> simp [fEnum, lstC]
theorem iseq_sq (h : Sq x ds) {a : DE} {ρ : Env} {S' : Sto} (e : a ρ S' = .ok x S) : iSeq a ρ S' = .ok (ds, fun _ => True) S := by rcases h with rfl | rfl <;> simp [iSeq, e]
theorem tup_sq (h : Sq x ds) : fTuple [x] S = .ok (.tup ds) S := by rcases h with rfl | rfl <;> simp [fTuple, seqOf]
theorem asg_nq (i j l : Nat) (a b d : D) (h : Sq x [b, d]) (ρ : Env) : Tg.asg S (.tp [.nm i, .tp [.nm j, .nm l]]) (.tup [a, x]) ρ = some (((ρ.set i (some a)).set j (some b)).set l (some d)) := by
  rcases h with rfl | rfl <;> simp [Tg.asg, Tg.asgs, seqOf]
end
/-! ### things -/
abbrev Cl := Nat → Nat × Nat
abbrev Fl := Nat → Nat → Nat → List (Nat × Nat)
structure Okk (n m : Nat) (k : Cl) (f : Fl) : Prop where
  n1 : 1 ≤ n
  n2 : n ≤ 256
  m1 : 1 ≤ m
  m2 : m ≤ 12
  k1 : ∀ i, i < m → 1 ≤ (k i).1 ∧ (k i).1 ≤ 16 ∧ 1 ≤ (k i).2 ∧ (k i).2 ≤ 16
  fo : ∀ s i v, s < n → i < m → v < (k i).1 → LotOk (k i).2 n (f s i v)
def valsD (k : Cl) (f : Fl) (s i : Nat) : List D := (List.range (k i).1).map fun v => lotD (f s i v)
/-- the calls, in whatever sequences -/
def IsC (m : Nat) (k : Cl) (x : D) (cs : List D) : Prop := Sq x cs ∧ cs.length = m ∧ ∀ i y, cs[i]? = some y → Sq y [.int (k i).1, .int (k i).2]
def IsRow (m : Nat) (k : Cl) (f : Fl) (s : Nat) (y : D) : Prop := ∃ xs, Sq y xs ∧ xs.length = m ∧ ∀ i z, xs[i]? = some z → Sq z (valsD k f s i)
section
variable {n m : Nat} {k : Cl} {f : Fl} {CD TD : D} {cs ts : List D}
theorem vals_len (s i : Nat) : (valsD k f s i).length = (k i).1 := by simp [valsD]
theorem vals_at (s i v : Nat) (h : v < (k i).1) : (valsD k f s i)[v]? = some (lotD (f s i v)) := by simp [valsD, h]
/-- what the loops keep -/
def P1e (CD TD : D) (S0 : Sto) (ρ : Env) (S : Sto) : Prop := S = S0 ∧ ∃ a2 a3 a4 a5 a6 a7, ρ = [some CD, some TD, a2, a3, a4, a5, a6, a7]
def P2e (CD TD : D) (S0 : Sto) (s : Nat) (y : D) (ρ : Env) (S : Sto) : Prop := S = S0 ∧ ∃ a4 a5 a6 a7, ρ = [some CD, some TD, some (.int (s : Nat)), some y, a4, a5, a6, a7]
def P3e (CD TD : D) (S0 : Sto) (s : Nat) (y : D) (i : Nat) (a b : Nat) (ρ : Env) (S : Sto) : Prop := S = S0 ∧ ∃ a7, ρ = [some CD, some TD, some (.int (s : Nat)), some y, some (.int (i : Nat)), some (.int (a : Nat)), some (.int (b : Nat)), a7]
/-- one lot looked at -/
theorem lot_turn (ht : Sq TD ts) {s i v : Nat} {y z w : D} {xs zs : List D} (hy : Sq y xs) (hi : xs[i]? = some z) (hz : Sq z zs) (hv : zs[v]? = some w) (a b : Nat) {r : Bool} (hr : F_are_pairs c [w, .int b, .int ts.length] S = .ok (.bl r) S) :
    lb_wrong_entry_1 c [some CD, some TD, some (.int (s : Nat)), some y, some (.int (i : Nat)), some (.int (a : Nat)), some (.int (b : Nat)), some (.int (v : Nat))] S =
      if r = true then .nx [some CD, some TD, some (.int (s : Nat)), some y, some (.int (i : Nat)), some (.int (a : Nat)), some (.int (b : Nat)), some (.int (v : Nat))] S else .rt (.tup [.int (s : Nat), .int (i : Nat), .int (v : Nat)]) S := by
  have e1 := ix_sq S hy hi
  have e2 := ix_sq S hz hv
  have e3 := len_sq S ht
  cases r <;> simp [lb_wrong_entry_1, dl_are_pairs, e1, e2, hr, e3, runB, env0, sSeq, sRet, sIf, sNx, tNot, tV, eCall, eFn, aC, aN, eV, eC, Z.e2, eTup, tru]
/-- one call looked at: fine till the lots -/
theorem call_turn (hc : Sq CD cs) {s i : Nat} {y z : D} {xs zs : List D} (hy : Sq y xs) (hl : xs.length = cs.length) (hi : xs[i]? = some z) (hz : Sq z zs) (a b : Nat) (hzl : zs.length = a) (ha : a ≤ 16) (a7 : Option D) :
    lb_wrong_entry_2 c [some CD, some TD, some (.int (s : Nat)), some y, some (.int (i : Nat)), some (.int (a : Nat)), some (.int (b : Nat)), a7] S =
      forI (.nm 7) (lb_wrong_entry_1 c) (fun _ => True) (iRow 0 a) [some CD, some TD, some (.int (s : Nat)), some y, some (.int (i : Nat)), some (.int (a : Nat)), some (.int (b : Nat)), a7] S := by
  have e1 := is_seq c S hy
  have e2 := len_sq S hy
  have e3 := len_sq S hc
  have e4 := ix_sq S hy hi
  have e5 := is_seq c S hz
  have e6 := len_sq S hz
  have g0 : iR1 (eV 5) [some CD, some TD, some (.int (s : Nat)), some y, some (.int (i : Nat)), some (.int (a : Nat)), some (.int (b : Nat)), a7] S = .ok (iRow 0 a, fun _ => True) S := iR1_nat rfl (by omega)
  rw [hl] at e2
  rw [hzl] at e6
  unfold lb_wrong_entry_2
  rw [seq_skip (S' := S) (by simp [dl_is_sequence, e1, e2, e3, e4, e5, e6, eqD_int, fNe, rB, tOr, tNot, tV, tVB, eCall, eFn, aC, aN, eV, eC, Z.e2, tru])]
  exact for_nx g0
end
end Z.k01
namespace Z.k01
open PySem L2 Z
variable (c : Ad) (S : Sto)
section
variable {n m : Nat} {k : Cl} {f : Fl} {CD TD : D} {cs ts : List D}
theorem get_lt {α : Type} {xs : List α} {i : Nat} {x : α} (h : xs[i]? = some x) : i < xs.length := (List.getElem?_eq_some_iff.mp h).1
theorem get_of {α : Type} {xs : List α} {i : Nat} (h : i < xs.length) : ∃ x, xs[i]? = some x := ⟨xs[i], by simp [h]⟩
theorem take_mem {xs : List D} {i : Nat} {d : D} (h : d ∈ enumF 0 (xs.take i)) : ∃ j x, j < i ∧ xs[j]? = some x ∧ d = .tup [.int (j : Nat), x] := by
  obtain ⟨j, x, h1, rfl⟩ := enumF_mem h
  have hj : j < i := by
    have := get_lt h1
    simp at this
    omega
  refine ⟨j, x, hj, ?_, by simp⟩
  rw [List.getElem?_take] at h1
  simpa [hj] using h1
/-- the lots of one call, as far as they are right -/
theorem lots_to (o : Okk n m k f) (ht : Sq TD ts) (hn : ts.length = n) {s i : Nat} (hs : s < n) (hi : i < m) {y z : D} {xs zs : List D} (hy : Sq y xs) (hx : xs[i]? = some z) (hz : Sq z zs) {v : Nat} (hv : v < (k i).1) (hw : zs[v]? = some (lotD (f s i v))) :
    lb_wrong_entry_1 c [some CD, some TD, some (.int (s : Nat)), some y, some (.int (i : Nat)), some (.int ((k i).1 : Nat)), some (.int ((k i).2 : Nat)), some (.int (v : Nat))] S = .nx [some CD, some TD, some (.int (s : Nat)), some y, some (.int (i : Nat)), some (.int ((k i).1 : Nat)), some (.int ((k i).2 : Nat)), some (.int (v : Nat))] S := by
  have q := are_pairs_ok c S (k i).2 n _ (o.fo s i v hs hi hv)
  rw [← hn] at q
  rw [lot_turn c S ht hy hx hz hw _ _ q, if_pos rfl]
theorem call_fine (o : Okk n m k f) (hC : IsC m k CD cs) (ht : Sq TD ts) (hn : ts.length = n) {s i : Nat} (hs : s < n) (hi : i < m) {y z : D} {xs : List D} (hy : Sq y xs) (hl : xs.length = m) (hx : xs[i]? = some z) (hz : Sq z (valsD k f s i)) (a7 : Option D) :
    ∃ b7, lb_wrong_entry_2 c [some CD, some TD, some (.int (s : Nat)), some y, some (.int (i : Nat)), some (.int ((k i).1 : Nat)), some (.int ((k i).2 : Nat)), a7] S = .nx [some CD, some TD, some (.int (s : Nat)), some y, some (.int (i : Nat)), some (.int ((k i).1 : Nat)), some (.int ((k i).2 : Nat)), b7] S := by
  rw [call_turn c S hC.1 hy (by rw [hl, hC.2.1]) hx hz _ _ (vals_len s i) (o.k1 i hi).2.1]
  obtain ⟨ρ', S', h1, rfl, b7, rfl⟩ := forI_keep (chk := fun _ => True) (b := lb_wrong_entry_1 c) (tg := .nm 7) (P3e CD TD S s y i (k i).1 (k i).2) (iRow 0 (k i).1) [some CD, some TD, some (.int (s : Nat)), some y, some (.int (i : Nat)), some (.int ((k i).1 : Nat)), some (.int ((k i).2 : Nat)), a7] S ⟨rfl, a7, rfl⟩ fun d hd ρ S1 hP => by
    obtain ⟨v, hv, rfl⟩ := iRow_mem hd
    obtain ⟨rfl, a7, rfl⟩ := hP
    refine ⟨_, asg_nm .., _, _, .inl ?_, trivial, rfl, some (.int (v : Nat)), rfl⟩
    simpa using lots_to c S1 o ht hn hs hi hy hx hz hv (vals_at s i v hv)
  exact ⟨b7, h1⟩
theorem row_step (o : Okk n m k f) (hC : IsC m k CD cs) (ht : Sq TD ts) (hn : ts.length = n) {s : Nat} (hs : s < n) {y : D} {xs : List D} (hy : Sq y xs) (hl : xs.length = m) {i : Nat} {u z : D} (hu : cs[i]? = some u) (hx : xs[i]? = some z) (hz : Sq z (valsD k f s i)) :
    ∀ ρ S1, P2e CD TD S s y ρ S1 → ∃ ρ1, Tg.asg S1 (.tp [.nm 4, .tp [.nm 5, .nm 6]]) (.tup [.int (i : Nat), u]) ρ = some ρ1 ∧ ∃ ρ' S', (lb_wrong_entry_2 c ρ1 S1 = .nx ρ' S' ∨ lb_wrong_entry_2 c ρ1 S1 = .ct ρ' S') ∧ P2e CD TD S s y ρ' S' := by
  intro ρ S1 hP
  obtain ⟨rfl, a4, a5, a6, a7, rfl⟩ := hP
  have hi : i < m := by rw [← hC.2.1]; exact get_lt hu
  obtain ⟨b7, h⟩ := call_fine c S1 o hC ht hn hs hi hy hl hx hz a7
  exact ⟨_, asg_nq S1 4 5 6 _ _ _ (hC.2.2 i u hu) _, _, _, .inl h, rfl, some (.int (i : Nat)), some (.int ((k i).1 : Nat)), some (.int ((k i).2 : Nat)), b7, rfl⟩
theorem row_fine (o : Okk n m k f) (hC : IsC m k CD cs) (ht : Sq TD ts) (hn : ts.length = n) {s : Nat} (hs : s < n) {y : D} (hy : IsRow m k f s y) : ∀ ρ S1, P2e CD TD S s y ρ S1 → ∃ ρ' S', forI (.tp [.nm 4, .tp [.nm 5, .nm 6]]) (lb_wrong_entry_2 c) (fun _ => True) (enumF 0 cs) ρ S1 = .nx ρ' S' ∧ P2e CD TD S s y ρ' S' := by
  intro ρ S1 hP
  obtain ⟨xs, h1, h2, h3⟩ := hy
  refine forI_keep (P2e CD TD S s y) _ ρ S1 hP fun d hd ρ S1 hP => ?_
  obtain ⟨i, u, hu, rfl⟩ := enumF_mem hd
  rw [Nat.zero_add]
  obtain ⟨z, hz⟩ := get_of (xs := xs) (i := i) (by rw [h2, ← hC.2.1]; exact get_lt hu)
  obtain ⟨ρ1, e1, ρ', S', e2, e3⟩ := row_step c S o hC ht hn hs h1 h2 hu hz (h3 i z hz) ρ S1 hP
  exact ⟨ρ1, e1, ρ', S', e2, trivial, e3⟩
/-- a row at which the look stops, with the place told -/
def RowBad (c : Ad) (CD TD : D) (cs : List D) (s : Nat) (y : D) (i : Nat) (v : Int) : Prop := ∀ ρ S S1, P2e CD TD S s y ρ S1 → forI (.tp [.nm 4, .tp [.nm 5, .nm 6]]) (lb_wrong_entry_2 c) (fun _ => True) (enumF 0 cs) ρ S1 = .rt (.tup [.int (s : Nat), .int (i : Nat), .int v]) S1
theorem bad_by (hC : IsC m k CD cs) {s i : Nat} (hi : i < m) {y : D} {v : Int} (before : ∀ j u, j < i → cs[j]? = some u → ∀ S ρ S1, P2e CD TD S s y ρ S1 → ∃ ρ1, Tg.asg S1 (.tp [.nm 4, .tp [.nm 5, .nm 6]]) (.tup [.int (j : Nat), u]) ρ = some ρ1 ∧ ∃ ρ' S', (lb_wrong_entry_2 c ρ1 S1 = .nx ρ' S' ∨ lb_wrong_entry_2 c ρ1 S1 = .ct ρ' S') ∧ P2e CD TD S s y ρ' S')
    (stop : ∀ S a7, lb_wrong_entry_2 c [some CD, some TD, some (.int (s : Nat)), some y, some (.int (i : Nat)), some (.int ((k i).1 : Nat)), some (.int ((k i).2 : Nat)), a7] S = .rt (.tup [.int (s : Nat), .int (i : Nat), .int v]) S) : RowBad c CD TD cs s y i v := by
  intro ρ S S1 hP
  have hS : S1 = S := hP.1
  subst hS
  obtain ⟨u, hu⟩ := get_of (xs := cs) (i := i) (by rw [hC.2.1]; exact hi)
  rw [enum_split cs i u hu]
  refine forI_stop (P2e CD TD S1 s y) _ ρ S1 hP (fun e he ρ S2 hP2 => ?_) fun ρ S2 hP2 => ?_
  · obtain ⟨j, x, hj, hx, rfl⟩ := take_mem he
    exact before j x hj hx S1 ρ S2 hP2
  · obtain ⟨rfl, a4, a5, a6, a7, rfl⟩ := hP2
    exact ⟨_, asg_nq S2 4 5 6 _ _ _ (hC.2.2 i u hu) _, stop S2 a7⟩
/-- the row is no sequence, or of another length -/
theorem bad_row (hC : IsC m k CD cs) (hm : 1 ≤ m) {s : Nat} {y : D} (hy : (∀ S, F_is_sequence c [y] S = .ok (.bl false) S) ∨ ∃ xs, Sq y xs ∧ xs.length ≠ m) : RowBad c CD TD cs s y 0 (-1) := by
  refine bad_by c hC (i := 0) hm (fun j u hj => absurd hj (Nat.not_lt_zero _)) fun S a7 => ?_
  rcases hy with h | ⟨xs, h1, h2⟩
  · simp [lb_wrong_entry_2, dl_is_sequence, h S, runB, env0, sSeq, sRet, sRetN, sIf, sSet, sDrop, sNx, sPar, sAsg, sAttr, sPut, sRaise, Tg.asg, Tg.asgs, eAnd, eOr, eNot, eIf, tAnd, tOr, tNot, tV, tVB, tYes, eCall, eFn, eMk, eMt, eFld, eBM, aC, aN, eV, eC, Z.e1, Z.e2, eTup, eLV, eLN, eChain, eSl, fIsi, tyD, isK, anyK, tNames, rB, tru, fLen, fTuple, fAbs, fInt, fAll, fAny, fIsN, fNotN, fIsB, fNotB, fNeg, seqOf, lstOf, isL, fLt_ii, fLe_ii, fGt_ii, fGe_ii, fSub_ii, fPlus, fMod_ii, fMul_ii, fDiv_ii, fEq, fNe, eqD_int, fIx, atI_0, atI_1, atI_2, lLc, lLc2, iSeq, iCall, fEnum, fZip, wipeD, putD, lSl, lRev, R.to_ok, R.bind_ok]
  · have e1 := is_seq c S h1
    have e2 := len_sq S h1
    have e3 := len_sq S hC.1
    have h2' : ¬ (xs.length : Int) = (cs.length : Int) := by rw [hC.2.1]; omega
    unfold lb_wrong_entry_2
    simp [dl_is_sequence, e1, e2, e3, eqD_int, h2', runB, env0, sSeq, sRet, sIf, sNx, tOr, tNot, tV, tVB, fNe, rB, eCall, eFn, aC, aN, eV, eC, Z.e1, Z.e2, eTup, tru, fNeg]
/-- at a call there is no sequence, or one of another length -/
theorem bad_vals (o : Okk n m k f) (hC : IsC m k CD cs) (ht : Sq TD ts) (hn : ts.length = n) {s i : Nat} (hs : s < n) (hi : i < m) {y z : D} {xs : List D} (hy : Sq y xs) (hl : xs.length = m) (hx : xs[i]? = some z) (hb : ∀ j w, j < i → xs[j]? = some w → Sq w (valsD k f s j))
    (hz : (∀ S, F_is_sequence c [z] S = .ok (.bl false) S) ∨ ∃ zs, Sq z zs ∧ zs.length ≠ (k i).1) : RowBad c CD TD cs s y i (-1) := by
  refine bad_by c hC hi (fun j u hj hu S ρ S1 hP => ?_) fun S a7 => ?_
  · obtain ⟨w, hw⟩ := get_of (xs := xs) (i := j) (by omega)
    exact row_step c S o hC ht hn hs hy hl hu hw (hb j w hj hw) ρ S1 hP
  · have e1 := is_seq c S hy
    have e2 := len_sq S hy
    have e3 := len_sq S hC.1
    have e4 := ix_sq S hy hx
    rw [hl] at e2
    rw [hC.2.1] at e3
    rcases hz with h | ⟨zs, h1, h2⟩
    · simp [lb_wrong_entry_2, dl_is_sequence, e1, e2, e3, e4, h S, eqD_int, runB, env0, sSeq, sRet, sIf, sNx, tOr, tNot, tV, tVB, fNe, rB, eCall, eFn, aC, aN, eV, eC, Z.e1, Z.e2, eTup, tru, fNeg]
    · have e5 := is_seq c S h1
      have e6 := len_sq S h1
      have h2' : ¬ (zs.length : Int) = ((k i).1 : Int) := by omega
      simp [lb_wrong_entry_2, dl_is_sequence, e1, e2, e3, e4, e5, e6, h2', eqD_int, runB, env0, sSeq, sRet, sIf, sNx, tOr, tNot, tV, tVB, fNe, rB, eCall, eFn, aC, aN, eV, eC, Z.e1, Z.e2, eTup, tru, fNeg]
/-- one lot is none -/
theorem bad_lot (o : Okk n m k f) (hC : IsC m k CD cs) (ht : Sq TD ts) (hn : ts.length = n) {s i v : Nat} (hs : s < n) (hi : i < m) (hv : v < (k i).1) {y z w : D} {xs zs : List D} (hy : Sq y xs) (hl : xs.length = m) (hx : xs[i]? = some z) (hb : ∀ j w, j < i → xs[j]? = some w → Sq w (valsD k f s j))
    (hz : Sq z zs) (hzl : zs.length = (k i).1) (hw : zs[v]? = some w) (hbz : ∀ j, j < v → zs[j]? = some (lotD (f s i j))) (hno : NoL c (k i).2 n w) : RowBad c CD TD cs s y i v := by
  refine bad_by c hC hi (fun j u hj hu S ρ S1 hP => ?_) fun S a7 => ?_
  · obtain ⟨w, hw⟩ := get_of (xs := xs) (i := j) (by omega)
    exact row_step c S o hC ht hn hs hy hl hu hw (hb j w hj hw) ρ S1 hP
  · rw [call_turn c S hC.1 hy (by rw [hl, hC.2.1]) hx hz _ _ hzl (o.k1 i hi).2.1, iRow_split _ v hv]
    refine forI_stop (P3e CD TD S s y i (k i).1 (k i).2) _ _ S ⟨rfl, a7, rfl⟩ (fun e he ρ S1 hP => ?_) fun ρ S1 hP => ?_
    · obtain ⟨j, hj, rfl⟩ := iRow_mem he
      obtain ⟨rfl, a7, rfl⟩ := hP
      refine ⟨_, asg_nm .., _, _, .inl ?_, rfl, some (.int (j : Nat)), rfl⟩
      simpa using lots_to c S1 o ht hn hs hi hy hx hz (show j < (k i).1 by omega) (hbz j hj)
    · obtain ⟨rfl, a7, rfl⟩ := hP
      refine ⟨_, asg_nm .., ?_⟩
      have q := hno S1
      rw [← hn] at q
      have := lot_turn c S1 (CD := CD) ht (s := s) hy hx hz hw (k i).1 (k i).2 q
      simpa using this
/-- the whole look: nothing wrong -/
theorem wrong_none (o : Okk n m k f) (hC : IsC m k CD cs) (ht : Sq TD ts) (hn : ts.length = n) (hr : ∀ s y, ts[s]? = some y → IsRow m k f s y) : F_wrong_entry c [CD, TD] S = .ok .non S := by
  have e1 := enum_sq S hC.1
  have e2 := enum_sq S ht
  obtain ⟨ρ', S', h1, rfl, _⟩ := forI_keep (chk := fun _ => True) (tg := .tp [.nm 2, .nm 3]) (b := lb_wrong_entry_3 c) (P1e CD TD S) (enumF 0 ts) [some CD, some TD, none, none, none, none, none, none] S ⟨rfl, _, _, _, _, _, _, rfl⟩ fun d hd ρ S1 hP => by
    obtain ⟨s, y, hy, rfl⟩ := enumF_mem hd
    obtain ⟨rfl, a2, a3, a4, a5, a6, a7, rfl⟩ := hP
    obtain ⟨ρ', S', h1, rfl, c4, c5, c6, c7, rfl⟩ := row_fine c S1 o hC ht hn (s := s) (by rw [← hn]; exact get_lt hy) (hr s y hy) [some CD, some TD, some (.int (s : Nat)), some y, a4, a5, a6, a7] S1 ⟨rfl, a4, a5, a6, a7, rfl⟩
    refine ⟨_, asg_p2 .., _, _, .inl ?_, trivial, rfl, some (.int (s : Nat)), some y, c4, c5, c6, c7, rfl⟩
    simpa [lb_wrong_entry_3, sFor, e1, iCall, aC, aN, eV] using h1
  simp [F_wrong_entry, den_wrong_entry, sFor, e2, h1, runB, env0, sSeq, sRet, eCall, aC, aN, eV, eC, iCall]
/-- the whole look: the first wrong row -/
theorem wrong_at (o : Okk n m k f) (hC : IsC m k CD cs) (ht : Sq TD ts) (hn : ts.length = n) {s i : Nat} {v : Int} {y : D} (hs : ts[s]? = some y) (hr : ∀ j w, j < s → ts[j]? = some w → IsRow m k f j w) (hb : RowBad c CD TD cs s y i v) : F_wrong_entry c [CD, TD] S = .ok (.tup [.int (s : Nat), .int (i : Nat), .int v]) S := by
  have e1 := enum_sq S hC.1
  have e2 := enum_sq S ht
  have hsn : s < n := by rw [← hn]; exact get_lt hs
  have h1 : forI (.tp [.nm 2, .nm 3]) (lb_wrong_entry_3 c) (fun _ => True) (enumF 0 ts) [some CD, some TD, none, none, none, none, none, none] S = .rt (.tup [.int (s : Nat), .int (i : Nat), .int v]) S := by
    rw [enum_split ts s y hs]
    refine forI_stop (P1e CD TD S) _ _ S ⟨rfl, _, _, _, _, _, _, rfl⟩ (fun e he ρ S1 hP => ?_) fun ρ S1 hP => ?_
    · obtain ⟨j, w, hj, hw, rfl⟩ := take_mem he
      obtain ⟨rfl, a2, a3, a4, a5, a6, a7, rfl⟩ := hP
      obtain ⟨ρ', S', h1, rfl, c4, c5, c6, c7, rfl⟩ := row_fine c S1 o hC ht hn (s := j) (by omega) (hr j w hj hw) [some CD, some TD, some (.int (j : Nat)), some w, a4, a5, a6, a7] S1 ⟨rfl, a4, a5, a6, a7, rfl⟩
      refine ⟨_, asg_p2 .., _, _, .inl ?_, rfl, some (.int (j : Nat)), some w, c4, c5, c6, c7, rfl⟩
      simpa [lb_wrong_entry_3, sFor, e1, iCall, aC, aN, eV] using h1
    · obtain ⟨rfl, a2, a3, a4, a5, a6, a7, rfl⟩ := hP
      have h1 := hb [some CD, some TD, some (.int (s : Nat)), some y, a4, a5, a6, a7] S1 S1 ⟨rfl, a4, a5, a6, a7, rfl⟩
      refine ⟨_, asg_p2 .., ?_⟩
      simpa [lb_wrong_entry_3, sFor, e1, iCall, aC, aN, eV] using h1
  simp [F_wrong_entry, den_wrong_entry, sFor, e2, h1, runB, env0, sSeq, sRet, eCall, aC, aN, eV, eC, iCall]
end
end Z.k01
namespace Z.k01
open PySem L2 Z
variable (c : Ad) (S : Sto)
def callsD (m : Nat) (k : Cl) : List D := (List.range m).map fun i => .tup [.int (k i).1, .int (k i).2]
def rowD (m : Nat) (k : Cl) (f : Fl) (s : Nat) : D := .tup ((List.range m).map fun i => .tup (valsD k f s i))
def tabD (n m : Nat) (k : Cl) (f : Fl) : List D := (List.range n).map (rowD m k f)
def thing (c : Ad) (n m : Nat) (k : Cl) (f : Fl) : O := .ins c.Thing [("calls", .tup (callsD m k)), ("table", .tup (tabD n m k f))]
def tupOf : D → D
  | .lst ds => .tup ds
  | d => d
theorem tupOf_sq {x : D} {ds : List D} (h : Sq x ds) : tupOf x = .tup ds := by rcases h with rfl | rfl <;> rfl
theorem map_ext {xs : List D} {m : Nat} {g : D → D} {h : Nat → D} (hl : xs.length = m) (hx : ∀ i y, xs[i]? = some y → g y = h i) : xs.map g = (List.range m).map h := by
  apply List.ext_getElem?
  intro i
  by_cases hi : i < xs.length
  · obtain ⟨y, hy⟩ := get_of hi
    have hm : i < m := by omega
    simp [hy, hm, hx i y hy]
  · have hm : ¬ i < m := by omega
    simp [List.getElem?_eq_none (show xs.length ≤ i by omega), hm]
section
variable {n m : Nat} {k : Cl} {f : Fl} {CD TD : D} {cs ts : List D}
theorem mem_get {xs : List D} {d : D} (h : d ∈ xs) : ∃ i : Nat, xs[i]? = some d := List.mem_iff_getElem?.mp h
theorem mk1 (o : Okk n m k f) (hC : IsC m k CD cs) (a0 a1 a2 a3 a4 a5 : Option D) : lcI (.nm 3) (fun _ => True) tYes (eFn 1 (F_is_call_row c) dl_is_call_row (aC (eV 3) aN)) [a0, a1, a2, a3, a4, a5] cs S = .ok (cs.map fun _ => .bl true) S := by
  refine lcI_map (fun _ => .bl true) trivial _ fun d hd => ⟨_, asg_nm .., ?_⟩
  obtain ⟨i, hi⟩ := mem_get hd
  have hm : i < m := by rw [← hC.2.1]; exact get_lt hi
  have q := o.k1 i hm
  have r := call_row_ok c S (k i).1 (k i).2 (hC.2.2 i d hi) (by omega) (by omega) (by omega) (by omega)
  simp [dl_is_call_row, r, eFn, aC, aN, eV]
def head2 : D → D
  | .tup (a :: b :: _) => .tup [a, b]
  | .lst (a :: b :: _) => .tup [a, b]
  | d => d
theorem mk2 (hC : IsC m k CD cs) (a0 a1 a2 a3 a4 a5 : Option D) : lcI (.nm 3) (fun _ => True) tYes (eTup (aC (Z.e2 fIx (eV 3) (eC (.int 0))) (aC (Z.e2 fIx (eV 3) (eC (.int 1))) aN))) [a0, a1, a2, a3, a4, a5] cs S = .ok (callsD m k) S := by
  rw [lcI_map head2 trivial _ fun d hd => ⟨_, asg_nm .., ?_⟩]
  · congr 1
    refine map_ext hC.2.1 fun i y hy => ?_
    rcases hC.2.2 i y hy with rfl | rfl <;> rfl
  · obtain ⟨i, hi⟩ := mem_get hd
    rcases hC.2.2 i d hi with rfl | rfl <;> simp [head2, eTup, aC, aN, eV, eC, Z.e2, fIx, atI_0, atI_1]
theorem mk3 (o : Okk n m k f) (hn : ts.length = n) (hr : ∀ s y, ts[s]? = some y → IsRow m k f s y) (a0 a1 a2 a3 a4 a5 : Option D) : lcI (.nm 3) (fun _ => True) tYes (eCall fTuple (aC (eLV (lLc (.nm 5) (iSeq (eV 3)) tYes (eCall fTuple (aC (eV 5) aN)) [5])) aN)) [a0, a1, a2, a3, a4, a5] ts S = .ok (tabD n m k f) S := by
  let g : D → D := fun d => match seqOf [] d with
    | some xs => .tup (xs.map tupOf)
    | none => d
  have sq0 : ∀ {x : D} {ds : List D}, Sq x ds → seqOf [] x = some ds := fun h => by rcases h with rfl | rfl <;> rfl
  rw [lcI_map g trivial _ fun d hd => ⟨_, asg_nm .., ?_⟩]
  · congr 1
    refine map_ext hn fun s y hy => ?_
    obtain ⟨xs, h1, h2, h3⟩ := hr s y hy
    show (match seqOf [] y with
      | some xs => D.tup (xs.map tupOf)
      | none => y) = _
    rw [sq0 h1]
    show D.tup (xs.map tupOf) = D.tup _
    rw [map_ext (h := fun i => D.tup (valsD k f s i)) h2 fun i z hz => tupOf_sq (h3 i z hz)]
  · obtain ⟨s, hs⟩ := mem_get hd
    obtain ⟨xs, h1, h2, h3⟩ := hr s d hs
    have hm := o.m2
    have inner : ∀ b0 b1 b2 b3 b4 b5, lcI (.nm 5) (fun _ => True) tYes (eCall fTuple (aC (eV 5) aN)) [b0, b1, b2, b3, b4, b5] xs S = .ok (xs.map tupOf) S := by
      intro b0 b1 b2 b3 b4 b5
      refine lcI_map tupOf trivial _ fun z hz => ⟨_, asg_nm .., ?_⟩
      obtain ⟨i, hi⟩ := mem_get hz
      have q := tup_sq S (h3 i z hi)
      rw [tupOf_sq (h3 i z hi)]
      simp [eCall, aC, aN, eV, q]
    have hl : xs.length ≤ 16777216 := by omega
    have e0 : iSeq (eV 3) [a0, a1, a2, some d, a4, a5] S = .ok (xs, fun _ => True) S := iseq_sq S h1 rfl
    have eg : g d = .tup (xs.map tupOf) := by
      show (match seqOf [] d with
        | some xs => D.tup (xs.map tupOf)
        | none => d) = _
      rw [sq0 h1]
    rw [eg]
    simp [eCall, aC, aN, eLV, lLc, e0, hl, wipeD, inner, fTuple, seqOf]
theorem mk_ok (o : Okk n m k f) (hC : IsC m k CD cs) (ht : Sq TD ts) (hn : ts.length = n) (hr : ∀ s y, ts[s]? = some y → IsRow m k f s y) : F_Thing_mk c [.ref S.length, CD, TD] (S ++ [.ins c.Thing []]) = .ok .non (S ++ [thing c n m k f]) := by
  have h1 := o.m1
  have h2 := o.m2
  have h3 := o.n1
  have h4 := o.n2
  have l1 := hC.2.1
  have g1 : (1 : Int) ≤ (m : Int) := by omega
  have g2 : (m : Int) ≤ 12 := by omega
  have g3 : (1 : Int) ≤ (n : Int) := by omega
  have g4 : (n : Int) ≤ 256 := by omega
  have g5 : cs.length ≤ 16777216 := by omega
  have g6 : ts.length ≤ 16777216 := by omega
  have e1 : bools (cs.map fun _ => D.bl true) = some (cs.map fun _ => true) := bools_true _
  have n1 : ¬ ("calls" : Str) = "table" := by decide +kernel
  have s1 := is_seq c (S ++ [.ins c.Thing []]) hC.1
  have s2 := is_seq c (S ++ [.ins c.Thing []]) ht
  have s3 := len_sq (S ++ [.ins c.Thing []]) hC.1
  have s4 := len_sq (S ++ [.ins c.Thing []]) ht
  rw [l1] at s3
  rw [hn] at s4
  have w := wrong_none c (S ++ [.ins c.Thing []]) o hC ht hn hr
  have i1 : ∀ a3 a4 a5, iSeq (eV 1) [some (.ref S.length), some CD, some TD, a3, a4, a5] (S ++ [.ins c.Thing []]) = .ok (cs, fun _ => True) (S ++ [.ins c.Thing []]) := fun a3 a4 a5 => iseq_sq _ hC.1 rfl
  have i2 : ∀ a3 a4 a5 S', iSeq (eV 1) [some (.ref S.length), some CD, some TD, a3, a4, a5] S' = .ok (cs, fun _ => True) S' := fun a3 a4 a5 S' => iseq_sq _ hC.1 rfl
  have i3 : ∀ a3 a4 a5 S', iSeq (eV 2) [some (.ref S.length), some CD, some TD, a3, a4, a5] S' = .ok (ts, fun _ => True) S' := fun a3 a4 a5 S' => iseq_sq _ ht rfl
  have all_t : ((cs.map fun _ => true).all id) = true := by simp
  have k1 := fun a0 a1 a2 a3 a4 a5 => mk1 c (S ++ [.ins c.Thing []]) o hC a0 a1 a2 a3 a4 a5
  have k2 := fun S' a0 a1 a2 a3 a4 a5 => mk2 S' hC a0 a1 a2 a3 a4 a5
  have k3 := fun S' a0 a1 a2 a3 a4 a5 => mk3 S' o hn hr a0 a1 a2 a3 a4 a5
  simp [F_Thing_mk, den_Thing_mk, dl_is_sequence, dl_wrong_entry, s1, s2, s3, s4, w, i2, i3, g1, g2, g3, g4, g5, g6, k1, k2, k3, e1, n1, thing, runB, env0, sSeq, sIf, sNx, sSet, sAttr, sRaise, tOr, tNot, tV, tVB, eChain, eCall, eFn, aC, aN, eV, eC, Z.e1, eLV, lLc, fAll, lstOf, tru, fNotN, fTuple, seqOf, wipeD, putD, fLe_ii]
/-- what is refused -/
theorem mk_bad_calls {x t : D} (h : (∀ S, F_is_sequence c [x] S = .ok (.bl false) S) ∨ ∃ cs, Sq x cs ∧ (¬ (1 ≤ cs.length ∧ cs.length ≤ 12) ∨ cs.length ≤ 12 ∧ ∃ bs : List Bool, (∀ (a0 a1 a2 a3 a4 a5 : Option D) S, lcI (.nm 3) (fun _ => True) tYes (eFn 1 (F_is_call_row c) dl_is_call_row (aC (eV 3) aN)) [a0, a1, a2, a3, a4, a5] cs S = .ok (bs.map D.bl) S) ∧ (bs.all id) = false)) (r : D) :
    F_Thing_mk c [r, x, t] S = .exc c.InvalidThing (.str "calls") S := by
  rcases h with h | ⟨cs, h1, h2 | ⟨h2, bs, h3, h4⟩⟩
  · simp [F_Thing_mk, den_Thing_mk, dl_is_sequence, h, runB, env0, sSeq, sIf, sNx, sRaise, tOr, tNot, tV, eFn, aC, aN, eV, eC, tru]
  · have s1 := is_seq c S h1
    have s3 := len_sq S h1
    by_cases g1 : 1 ≤ cs.length
    · have g2 : ¬ (cs.length : Int) ≤ 12 := by omega
      have g1' : (1 : Int) ≤ cs.length := by omega
      simp [F_Thing_mk, den_Thing_mk, dl_is_sequence, s1, s3, g1', g2, runB, env0, sSeq, sIf, sNx, sRaise, tOr, tNot, tV, tVB, eChain, eCall, eFn, aC, aN, eV, eC, tru, fLe_ii]
    · have g1' : ¬ (1 : Int) ≤ cs.length := by omega
      simp [F_Thing_mk, den_Thing_mk, dl_is_sequence, s1, s3, g1', runB, env0, sSeq, sIf, sNx, sRaise, tOr, tNot, tV, tVB, eChain, eCall, eFn, aC, aN, eV, eC, tru, fLe_ii]
  · have s1 := is_seq c S h1
    have s3 := len_sq S h1
    by_cases g1 : 1 ≤ cs.length
    · have g2 : (cs.length : Int) ≤ 12 := by omega
      have g1' : (1 : Int) ≤ cs.length := by omega
      have g3 : cs.length ≤ 16777216 := by omega
      have i2 : ∀ a3 a4 a5, iSeq (eV 1) [some r, some x, some t, a3, a4, a5] S = .ok (cs, fun _ => True) S := fun a3 a4 a5 => iseq_sq _ h1 rfl
      have e1 : bools (bs.map D.bl) = some bs := by
        have := bools_map (fun b : Bool => b) bs
        simpa using this
      simp [F_Thing_mk, den_Thing_mk, dl_is_sequence, s1, s3, g1', g2, g3, i2, h3, e1, h4, runB, env0, sSeq, sIf, sNx, sRaise, tOr, tNot, tV, tVB, eChain, eCall, eFn, aC, aN, eV, eC, tru, fLe_ii, eLV, lLc, wipeD, fAll, lstOf]
    · have g1' : ¬ (1 : Int) ≤ cs.length := by omega
      simp [F_Thing_mk, den_Thing_mk, dl_is_sequence, s1, s3, g1', runB, env0, sSeq, sIf, sNx, sRaise, tOr, tNot, tV, tVB, eChain, eCall, eFn, aC, aN, eV, eC, tru, fLe_ii]
end
end Z.k01
namespace Z.k01
open PySem L2 Z
variable (c : Ad) (S : Sto)
section
variable {n m : Nat} {k : Cl} {f : Fl} {CD TD : D} {cs ts : List D}
/-- the calls are right: the look goes on to the table -/
theorem mk_calls (o : Okk n m k f) (hC : IsC m k CD cs) (r t : D) : ∃ den : DS, (den = sSeq (sIf (tOr (tNot (tV (eFn 1 (F_is_sequence c) (dl_is_sequence.drop 0) (aC (eV 2) aN)))) (tNot (tVB (eChain fLe fLe (eC (.int 1)) (eCall fLen (aC (eV 2) aN)) (eC (.int 256)))))) (sRaise c.InvalidThing (eC (.str "table"))) sNx)
  (sSeq (sSet 4 (eFn 2 (F_wrong_entry c) (dl_wrong_entry.drop 0) (aC (eV 1) (aC (eV 2) aN))))
  (sSeq (sIf (tVB (Z.e1 fNotN (eV 4))) (sRaise c.InvalidThing (eV 4)) sNx)
  (sSeq (sAttr c.cs "calls" (eCall fTuple (aC (eLV (lLc (.nm 3) (iSeq (eV 1)) tYes (eTup (aC (Z.e2 fIx (eV 3) (eC (.int 0))) (aC (Z.e2 fIx (eV 3) (eC (.int 1))) aN))) [3])) aN)) (eV 0))
  (sAttr c.cs "table" (eCall fTuple (aC (eLV (lLc (.nm 3) (iSeq (eV 2)) tYes (eCall fTuple (aC (eLV (lLc (.nm 5) (iSeq (eV 3)) tYes (eCall fTuple (aC (eV 5) aN)) [5])) aN)) [3])) aN)) (eV 0)))))) ∧ den_Thing_mk c [some r, some CD, some t, none, none, none] S = den [some r, some CD, some t, none, none, none] S := by
  have h1 := o.m1
  have h2 := o.m2
  have l1 := hC.2.1
  have g1 : (1 : Int) ≤ (m : Int) := by omega
  have g2 : (m : Int) ≤ 12 := by omega
  have g5 : cs.length ≤ 16777216 := by omega
  have e1 : bools (cs.map fun _ => D.bl true) = some (cs.map fun _ => true) := bools_true _
  have s1 := is_seq c S hC.1
  have s3 := len_sq S hC.1
  rw [l1] at s3
  have i2 : ∀ a3 a4 a5, iSeq (eV 1) [some r, some CD, some t, a3, a4, a5] S = .ok (cs, fun _ => True) S := fun a3 a4 a5 => iseq_sq _ hC.1 rfl
  have k1 := fun a0 a1 a2 a3 a4 a5 => mk1 c S o hC a0 a1 a2 a3 a4 a5
  refine ⟨_, rfl, ?_⟩
  unfold den_Thing_mk
  exact seq_skip (S' := S) (by simp [dl_is_sequence, s1, s3, i2, g1, g2, g5, k1, e1, tOr, tNot, tV, tVB, eChain, eCall, eFn, aC, aN, eV, eC, eLV, lLc, fAll, lstOf, tru, wipeD, fLe_ii])
theorem mk_bad_table (o : Okk n m k f) (hC : IsC m k CD cs) (r t : D) (h : F_is_sequence c [t] S = .ok (.bl false) S ∨ ∃ ts, Sq t ts ∧ ¬ (1 ≤ ts.length ∧ ts.length ≤ 256)) : F_Thing_mk c [r, CD, t] S = .exc c.InvalidThing (.str "table") S := by
  obtain ⟨den, hd, e⟩ := mk_calls c S o hC r t
  have q : den [some r, some CD, some t, none, none, none] S = .exc [some r, some CD, some t, none, none, none] c.InvalidThing (.str "table") S := by
    subst hd
    rcases h with h | ⟨ts, h1, h2⟩
    · simp [dl_is_sequence, h, sSeq, sIf, sNx, sRaise, tOr, tNot, tV, eFn, aC, aN, eV, eC, tru]
    · have s1 := is_seq c S h1
      have s3 := len_sq S h1
      by_cases g1 : 1 ≤ ts.length
      · have g2 : ¬ (ts.length : Int) ≤ 256 := by omega
        have g1' : (1 : Int) ≤ ts.length := by omega
        simp [dl_is_sequence, s1, s3, g1', g2, sSeq, sIf, sNx, sRaise, tOr, tNot, tV, tVB, eChain, eCall, eFn, aC, aN, eV, eC, tru, fLe_ii]
      · have g1' : ¬ (1 : Int) ≤ ts.length := by omega
        simp [dl_is_sequence, s1, s3, g1', sSeq, sIf, sNx, sRaise, tOr, tNot, tV, tVB, eChain, eCall, eFn, aC, aN, eV, eC, tru, fLe_ii]
  show runB 6 (den_Thing_mk c) [r, CD, t] S = _
  simp [runB, env0, e, q]
theorem mk_wrong (o : Okk n m k f) (hC : IsC m k CD cs) (r : D) (ht : Sq TD ts) (hl : 1 ≤ ts.length ∧ ts.length ≤ 256) {w : List D} (hw : F_wrong_entry c [CD, TD] S = .ok (.tup w) S) : F_Thing_mk c [r, CD, TD] S = .exc c.InvalidThing (.tup w) S := by
  obtain ⟨den, hd, e⟩ := mk_calls c S o hC r TD
  have q : ∃ ρ, den [some r, some CD, some TD, none, none, none] S = .exc ρ c.InvalidThing (.tup w) S := by
    subst hd
    have s1 := is_seq c S ht
    have s3 := len_sq S ht
    have g2 : (ts.length : Int) ≤ 256 := by omega
    have g1 : (1 : Int) ≤ ts.length := by omega
    refine ⟨[some r, some CD, some TD, none, some (.tup w), none], ?_⟩
    simp [dl_is_sequence, dl_wrong_entry, s1, s3, g1, g2, hw, sSeq, sIf, sNx, sSet, sRaise, tOr, tNot, tV, tVB, eChain, eCall, eFn, aC, aN, eV, eC, Z.e1, fNotN, tru, fLe_ii]
  obtain ⟨ρ, q⟩ := q
  show runB 6 (den_Thing_mk c) [r, CD, TD] S = _
  simp [runB, env0, e, q]
end
end Z.k01
namespace Z.k01
open PySem L2 Z
variable (c : Ad) (S : Sto)
theorem tc_ne : (("table" : Str) == "calls") = false := by decide +kernel
theorem look_calls (a b : D) : List.lookup ("calls" : Str) [(("calls" : Str), a), (("table" : Str), b)] = some a := by simp [List.lookup]
theorem look_table (a b : D) : List.lookup ("table" : Str) [(("calls" : Str), a), (("table" : Str), b)] = some b := by simp [List.lookup, tc_ne]
theorem enumF_cons (k : Nat) (d : D) (ds : List D) : enumF k (d :: ds) = .tup [.int (k : Nat), d] :: enumF (k + 1) ds := rfl
section
variable {n m t : Nat} {k : Cl} {f : Fl}
theorem callsD_len (m : Nat) (k : Cl) : (callsD m k).length = m := by simp [callsD]
theorem tabD_len (n m : Nat) (k : Cl) (f) : (tabD n m k f).length = n := by simp [tabD]
theorem callsD_get {i : Nat} {d : D} (h : (callsD m k)[i]? = some d) : i < m ∧ d = .tup [.int (k i).1, .int (k i).2] := by
  have h1 := get_lt h
  rw [callsD_len] at h1
  unfold callsD at h
  simp [h1] at h
  exact ⟨h1, h.symm⟩
theorem callsD_at {i : Nat} (h : i < m) : (callsD m k)[i]? = some (.tup [.int (k i).1, .int (k i).2]) := by simp [callsD, h]
theorem tabD_at {i : Nat} (h : i < n) : (tabD n m k f)[i]? = some (rowD m k f i) := by simp [tabD, h]
theorem states_i (h : S[t]? = some (thing c n m k f)) : F_states_of c [.ref t] S = .ok (.int n) S := by
  simp [F_states_of, den_states_of, h, thing, look_table, tabD_len, runB, env0, sSeq, sRet, sRetN, sIf, sSet, sDrop, sNx, sPar, sAsg, sAttr, sPut, sRaise, Tg.asg, Tg.asgs, eAnd, eOr, eNot, eIf, tAnd, tOr, tNot, tV, tVB, tYes, eCall, eFn, eMk, eMt, eFld, eBM, aC, aN, eV, eC, Z.e1, Z.e2, eTup, eLV, eLN, eChain, eSl, fIsi, tyD, isK, anyK, tNames, rB, tru, fLen, fTuple, fAbs, fInt, fAll, fAny, fIsN, fNotN, fIsB, fNotB, fNeg, seqOf, lstOf, isL, fLt_ii, fLe_ii, fGt_ii, fGe_ii, fSub_ii, fPlus, fMod_ii, fMul_ii, fDiv_ii, fEq, fNe, eqD_int, fIx, atI_0, atI_1, atI_2, lLc, lLc2, iSeq, iCall, fEnum, fZip, wipeD, putD, lSl, lRev, R.to_ok, R.bind_ok]
theorem pairs_i (h : S[t]? = some (thing c n m k f)) (s i v : Nat) (hs : s < n) (hi : i < m) (hv : v < (k i).1) : F_pairs_of c [.ref t, .int s, .int i, .int v] S = .ok (lotD (f s i v)) S := by
  have e : L2.atI (tabD n m k f) ((s : Nat) : Int) = some (rowD m k f s) := by rw [atI_nat, tabD_at hs]
  have e2 : L2.atI ((List.range m).map fun i => D.tup (valsD k f s i)) ((i : Nat) : Int) = some (.tup (valsD k f s i)) := by
    rw [atI_nat]
    simp [hi]
  have e3 : L2.atI (valsD k f s i) ((v : Nat) : Int) = some (lotD (f s i v)) := by rw [atI_nat, vals_at s i v hv]
  simp [F_pairs_of, den_pairs_of, h, thing, look_table, e, rowD, e2, e3, runB, env0, sSeq, sRet, sRetN, sIf, sSet, sDrop, sNx, sPar, sAsg, sAttr, sPut, sRaise, Tg.asg, Tg.asgs, eAnd, eOr, eNot, eIf, tAnd, tOr, tNot, tV, tVB, tYes, eCall, eFn, eMk, eMt, eFld, eBM, aC, aN, eV, eC, Z.e1, Z.e2, eTup, eLV, eLN, eChain, eSl, fIsi, tyD, isK, anyK, tNames, rB, tru, fLen, fTuple, fAbs, fInt, fAll, fAny, fIsN, fNotN, fIsB, fNotB, fNeg, seqOf, lstOf, isL, fLt_ii, fLe_ii, fGt_ii, fGe_ii, fSub_ii, fPlus, fMod_ii, fMul_ii, fDiv_ii, fEq, fNe, eqD_int, fIx, atI_0, atI_1, atI_2, lLc, lLc2, iSeq, iCall, fEnum, fZip, wipeD, putD, lSl, lRev, R.to_ok, R.bind_ok]
/-- the calls with their values, in turn -/
def cvN (m : Nat) (k : Cl) : List (Nat × Nat) := (List.range m).flatMap fun i => (List.range (k i).1).map fun v => (i, v)
def cvD (m : Nat) (k : Cl) : List D := (cvN m k).map fun p => .tup [.int p.1, .int p.2]
theorem cvN_mem {p : Nat × Nat} (h : p ∈ cvN m k) : p.1 < m ∧ p.2 < (k p.1).1 := by
  unfold cvN at h
  obtain ⟨i, hi, h⟩ := List.mem_flatMap.mp h
  obtain ⟨v, hv, rfl⟩ := List.mem_map.mp h
  exact ⟨List.mem_range.mp hi, List.mem_range.mp hv⟩
theorem mem_cvN {i v : Nat} (hi : i < m) (hv : v < (k i).1) : (i, v) ∈ cvN m k := List.mem_flatMap.mpr ⟨i, List.mem_range.mpr hi, List.mem_map.mpr ⟨v, List.mem_range.mpr hv, rfl⟩⟩
theorem cvD_eq : cvD m k = (List.range m).flatMap fun (i : Nat) => (List.range (k i).1).map fun (v : Nat) => .tup [.int i, .int v] := by
  unfold cvD cvN
  rw [List.map_flatMap]
  congr 1
  funext i
  simp [Function.comp_def]
theorem flat_enum (g : Nat → D → List D) : ∀ (ds : List D) (j : Nat), (enumF j ds).flatMap (fun d => match d with
    | .tup [.int i, x] => g i.toNat x
    | _ => []) = (List.range ds.length).flatMap fun i => g (j + i) (ds[i]?.getD .non)
  | [], _ => by simp [enumF]
  | d :: ds, j => by
    rw [enumF_cons, List.flatMap_cons, flat_enum g ds (j + 1), List.length_cons, List.range_succ_eq_map, List.flatMap_cons, List.flatMap_map]
    simp only [Int.toNat_natCast, Nat.add_zero, List.getElem?_cons_zero, Option.getD_some, List.getElem?_cons_succ]
    congr 2
    funext i
    congr 1
    omega
theorem cv_len (o : Okk n m k f) : (cvN m k).length ≤ 192 := by
  have hm := o.m2
  have : ∀ l : List Nat, (∀ i ∈ l, i < m) → (l.flatMap fun (i : Nat) => (List.range (k i).1).map fun (v : Nat) => (i, v)).length ≤ 16 * l.length := by
    intro l
    induction l with
    | nil => simp
    | cons i l ih =>
      intro hl
      have h1 := ih fun i hi => hl i (List.mem_cons_of_mem _ hi)
      have h2 := (o.k1 i (hl i (List.mem_cons_self ..))).2.1
      simp only [List.flatMap_cons, List.length_append, List.length_map, List.length_range, List.length_cons]
      omega
  have q := this (List.range m) fun i hi => List.mem_range.mp hi
  rw [List.length_range] at q
  unfold cvN
  omega
theorem calls_i (o : Okk n m k f) (h : S[t]? = some (thing c n m k f)) : F_calls_of c [.ref t] S = .ok (.tup (cvD m k)) S := by
  have hm := o.m2
  have g1 : lc2I (.tp [.nm 1, .tp [.nm 2, .nm 3]]) (fun _ => True) tYes (innI (.nm 4) (iR1 (eV 2)) tYes (eTup (aC (eV 1) (aC (eV 4) aN))) [4]) [some (.ref t), none, none, none, none] (enumF 0 (callsD m k)) S = .ok (cvD m k) S := by
    rw [lc2I_flat (fun d => match d with
      | .tup [.int i, x] => (List.range (k i.toNat).1).map fun (v : Nat) => D.tup [.int i.toNat, .int v]
      | _ => []) trivial _ fun d hd => ?_]
    · rw [flat_enum (fun (i : Nat) _ => (List.range (k i).1).map fun (v : Nat) => D.tup [.int i, .int v]) (callsD m k) 0, callsD_len, cvD_eq]
      simp only [Nat.zero_add]
    · obtain ⟨i, x, hx, rfl⟩ := enumF_mem hd
      obtain ⟨hi, rfl⟩ := callsD_get hx
      have hk := o.k1 i hi
      refine ⟨_, asg_n2 .., ?_⟩
      have g0 : ∀ a b d e, iR1 (eV 2) [a, b, some (.int (k i).1), d, e] S = .ok (iRow 0 (k i).1, fun _ => True) S := fun a b d e => iR1_nat rfl (by omega)
      have g2 : ∀ a b d e, lcI (.nm 4) (fun _ => True) tYes (eTup (aC (eV 1) (aC (eV 4) aN))) [a, some (.int (i : Nat)), b, d, e] (iRow 0 (k i).1) S = .ok ((List.range (k i).1).map fun (v : Nat) => D.tup [.int i, .int v]) S := fun a b d e => lcI_range (fun (v : Nat) => D.tup [.int i, .int v]) trivial fun v hv => by
        simp [runB, env0, sSeq, sRet, sRetN, sIf, sSet, sDrop, sNx, sPar, sAsg, sAttr, sPut, sRaise, Tg.asg, Tg.asgs, eAnd, eOr, eNot, eIf, tAnd, tOr, tNot, tV, tVB, tYes, eCall, eFn, eMk, eMt, eFld, eBM, aC, aN, eV, eC, Z.e1, Z.e2, eTup, eLV, eLN, eChain, eSl, fIsi, tyD, isK, anyK, tNames, rB, tru, fLen, fTuple, fAbs, fInt, fAll, fAny, fIsN, fNotN, fIsB, fNotB, fNeg, seqOf, lstOf, isL, fLt_ii, fLe_ii, fGt_ii, fGe_ii, fSub_ii, fPlus, fMod_ii, fMul_ii, fDiv_ii, fEq, fNe, eqD_int, fIx, atI_0, atI_1, atI_2, lLc, lLc2, iSeq, iCall, fEnum, fZip, wipeD, putD, lSl, lRev, R.to_ok, R.bind_ok]
      simp [innI, g0, g2, wipeD]
  have g3 : (cvD m k).length ≤ 16777216 := by
    have := cv_len (f := f) o
    unfold cvD
    rw [List.length_map]
    omega
  simp [F_calls_of, den_calls_of, h, thing, look_calls, g1, g3, lstC, runB, env0, sSeq, sRet, sRetN, sIf, sSet, sDrop, sNx, sPar, sAsg, sAttr, sPut, sRaise, Tg.asg, Tg.asgs, eAnd, eOr, eNot, eIf, tAnd, tOr, tNot, tV, tVB, tYes, eCall, eFn, eMk, eMt, eFld, eBM, aC, aN, eV, eC, Z.e1, Z.e2, eTup, eLV, eLN, eChain, eSl, fIsi, tyD, isK, anyK, tNames, rB, tru, fLen, fTuple, fAbs, fInt, fAll, fAny, fIsN, fNotN, fIsB, fNotB, fNeg, seqOf, lstOf, isL, fLt_ii, fLe_ii, fGt_ii, fGe_ii, fSub_ii, fPlus, fMod_ii, fMul_ii, fDiv_ii, fEq, fNe, eqD_int, fIx, atI_0, atI_1, atI_2, lLc, lLc2, iSeq, iCall, fEnum, fZip, wipeD, putD, lSl, lRev, R.to_ok, R.bind_ok]
end
end Z.k01
namespace Z.k01
open PySem L2 Z
variable (c : Ad) (S : Sto)
section
variable {n m t : Nat} {k : Cl} {f : Fl}
/-- all lots, in turn -/
def lotsN (n m : Nat) (k : Cl) (f : Fl) : List (List (Nat × Nat)) := (List.range n).flatMap fun s => (cvN m k).map fun p => f s p.1 p.2
def sureB (n m : Nat) (k : Cl) (f : Fl) : Bool := (lotsN n m k f).all fun l => decide (l.length = 1)
theorem bools_app : ∀ (a b : List D) (x y : List Bool), bools a = some x → bools b = some y → bools (a ++ b) = some (x ++ y) := by
  intro a
  induction a with
  | nil => intro b x y h1 h2; simp [bools] at h1; subst h1; simpa using h2
  | cons d a ih =>
    intro b x y h1 h2
    cases d <;> simp [bools] at h1
    obtain ⟨bs, h3, rfl⟩ := h1
    simp [bools, ih b bs y h3 h2]
theorem lotD_len (l : List (Nat × Nat)) : fLen [lotD l] S = .ok (.int l.length) S := by simp [fLen, lotD, seqOf]
theorem lots_len (o : Okk n m k f) : (lotsN n m k f).length ≤ 16777216 := by
  have h1 := cv_len (f := f) o
  have h2 := o.n2
  have : ∀ l : List Nat, (l.flatMap fun s => (cvN m k).map fun p => f s p.1 p.2).length = l.length * (cvN m k).length := by
    intro l
    induction l with
    | nil => simp
    | cons a l ih => simp only [List.flatMap_cons, List.length_append, List.length_map, ih, List.length_cons, Nat.succ_mul]; omega
  unfold lotsN
  rw [this, List.length_range]
  have := Nat.mul_le_mul h2 h1
  omega
theorem iRow_nat (n : Nat) : iRow 0 n = (List.range n).map fun i => D.int (i : Nat) := by simp [iRow]
theorem sure_i (o : Okk n m k f) (h : S[t]? = some (thing c n m k f)) : F_is_sure c [.ref t] S = .ok (.bl (sureB n m k f)) S := by
  have hn := o.n2
  have g1 : ∀ a b d, lc2I (.nm 2) (fun _ => True) tYes (innI (.tp [.nm 3, .nm 4]) (iSeq (eV 1)) tYes (Z.e2 fEq (eCall fLen (aC (eFn 4 (F_pairs_of c) dl_pairs_of (aC (eV 0) (aC (eV 2) (aC (eV 3) (aC (eV 4) aN))))) aN)) (eC (.int 1))) [3, 4]) [some (.ref t), some (.tup (cvD m k)), a, b, d] (iRow 0 n) S = .ok ((lotsN n m k f).map fun l => .bl (decide (l.length = 1))) S := by
    intro a b d
    rw [lc2I_flat (fun d => (cvN m k).map fun p => .bl (decide ((f (dI d).toNat p.1 p.2).length = 1))) trivial _ fun d hd => ⟨_, asg_nm .., ?_⟩]
    · congr 1
      rw [iRow_nat, List.flatMap_map]
      unfold lotsN
      rw [List.map_flatMap]
      congr 1
      funext s
      simp only [List.map_map]
      apply List.map_congr_left
      intro p _
      show D.bl (decide ((f ((s : Nat) : Int).toNat p.1 p.2).length = 1)) = D.bl (decide ((f s p.1 p.2).length = 1))
      rw [Int.toNat_natCast]
    · obtain ⟨s, hs, rfl⟩ := iRow_mem hd
      have q : ∀ a b, lcI (.tp [.nm 3, .nm 4]) (fun _ => True) tYes (Z.e2 fEq (eCall fLen (aC (eFn 4 (F_pairs_of c) dl_pairs_of (aC (eV 0) (aC (eV 2) (aC (eV 3) (aC (eV 4) aN))))) aN)) (eC (.int 1))) [some (.ref t), some (.tup (cvD m k)), some (.int (s : Nat)), a, b] (cvD m k) S = .ok ((cvN m k).map fun p => .bl (decide ((f s p.1 p.2).length = 1))) S := fun a b => by
        rw [lcI_map (fun d => match d with
          | .tup [.int i, .int v] => .bl (decide ((f s i.toNat v.toNat).length = 1))
          | _ => .non) trivial _ fun d hd => ?_]
        · unfold cvD
          rw [List.map_map]
          congr 1
        · obtain ⟨p, hp, rfl⟩ := List.mem_map.mp hd
          obtain ⟨hi, hv⟩ := cvN_mem hp
          refine ⟨_, asg_p2 .., ?_⟩
          have e := pairs_i c S h s p.1 p.2 hs hi hv
          have e2 := lotD_len S (f s p.1 p.2)
          have e3 : decide (((f s p.1 p.2).length : Int) = 1) = decide ((f s p.1 p.2).length = 1) := decide_eq_decide.mpr (by omega)
          simp [dl_pairs_of, e, e2, e3, eCall, eFn, aC, aN, eV, eC, Z.e2, fEq, eqD_int, rB]
      simp [innI, q, iSeq, eV, R.safe, wipeD]
  have g2 : bools ((lotsN n m k f).map fun l => D.bl (decide (l.length = 1))) = some ((lotsN n m k f).map fun l => decide (l.length = 1)) := bools_map _ _
  have g3 := lots_len o
  have g4 : (((lotsN n m k f).map fun l => decide (l.length = 1)).all id) = sureB n m k f := by simp [sureB, List.all_map, Function.comp_def]
  have g5 : ∀ a b d e, iR1 (eFn 1 (F_states_of c) dl_states_of (aC (eV 0) aN)) [some (.ref t), a, b, d, e] S = .ok (iRow 0 n, fun _ => True) S := fun a b d e => iR1_nat (by simp [dl_states_of, states_i c S h, runB, env0, sSeq, sRet, sRetN, sIf, sSet, sDrop, sNx, sPar, sAsg, sAttr, sPut, sRaise, Tg.asg, Tg.asgs, eAnd, eOr, eNot, eIf, tAnd, tOr, tNot, tV, tVB, tYes, eCall, eFn, eMk, eMt, eFld, eBM, aC, aN, eV, eC, Z.e1, Z.e2, eTup, eLV, eLN, eChain, eSl, fIsi, tyD, isK, anyK, tNames, rB, tru, fLen, fTuple, fAbs, fInt, fAll, fAny, fIsN, fNotN, fIsB, fNotB, fNeg, seqOf, lstOf, isL, fLt_ii, fLe_ii, fGt_ii, fGe_ii, fSub_ii, fPlus, fMod_ii, fMul_ii, fDiv_ii, fEq, fNe, eqD_int, fIx, atI_0, atI_1, atI_2, lLc, lLc2, iSeq, iCall, fEnum, fZip, wipeD, putD, lSl, lRev, R.to_ok, R.bind_ok]) (by omega)
  obtain ⟨L, hL⟩ : ∃ L, L = ((lotsN n m k f).map fun l => D.bl (decide (l.length = 1))) := ⟨_, rfl⟩
  obtain ⟨M, hM⟩ : ∃ M, M = ((lotsN n m k f).map fun l => decide (l.length = 1)) := ⟨_, rfl⟩
  have g6 : L.length ≤ 16777216 := by rw [hL, List.length_map]; exact g3
  rw [← hL] at g1 g2
  rw [← hM] at g2 g4
  clear hL hM
  simp [F_is_sure, den_is_sure, dl_calls_of, calls_i c S o h, g1, g2, g6, g5, ← g4, runB, env0, sSeq, sRet, sRetN, sIf, sSet, sDrop, sNx, sPar, sAsg, sAttr, sPut, sRaise, Tg.asg, Tg.asgs, eAnd, eOr, eNot, eIf, tAnd, tOr, tNot, tV, tVB, tYes, eCall, eFn, eMk, eMt, eFld, eBM, aC, aN, eV, eC, Z.e1, Z.e2, eTup, eLV, eLN, eChain, eSl, fIsi, tyD, isK, anyK, tNames, rB, tru, fLen, fTuple, fAbs, fInt, fAll, fAny, fIsN, fNotN, fIsB, fNotB, fNeg, seqOf, lstOf, isL, fLt_ii, fLe_ii, fGt_ii, fGe_ii, fSub_ii, fPlus, fMod_ii, fMul_ii, fDiv_ii, fEq, fNe, eqD_int, fIx, atI_0, atI_1, atI_2, lLc, lLc2, iSeq, iCall, fEnum, fZip, wipeD, putD, lSl, lRev, R.to_ok, R.bind_ok]
end
end Z.k01
namespace Z.k01
open PySem L2 Z
variable (c : Ad)
def inD (xs : List Int) : List D := xs.map .int
/-- the drawing list: at 0 the great numbers, at 1 the pair of it and the stir -/
def Hp2 (T : Sto) (S : Sto) : Prop := ∃ (xs : List Int) (st : Int), xs.length ≤ 60 ∧ S = [.lst (inD xs), .lst [.ref 0, .int st]] ++ T
theorem toPs_ints (S : Sto) : ∀ xs : List Int, flatPs (inD xs) = some (xs.map PyData.int)
  | [] => rfl
  | x :: xs => by
    have ih := toPs_ints S xs
    unfold inD at ih ⊢
    simp [flatPs, flatP, ih]
theorem canLay_ints : ∀ xs : List Int, PyData.canLayAll0 (xs.map PyData.int) = true
  | [] => rfl
  | x :: xs => by simp [PyData.canLayAll0, PyData.canLay0, canLay_ints xs]
theorem depth_ints : ∀ xs : List Int, PyData.depth (.list (xs.map PyData.int)) ≤ 64 := by
  intro xs
  have : ∀ ys : List Int, PyData.depthAll (ys.map PyData.int) ≤ 1 := by
    intro ys
    induction ys with
    | nil => simp [PyData.depthAll]
    | cons y ys ih => simp [PyData.depthAll, PyData.depth]; omega
  have := this xs
  simp only [PyData.depth]
  omega
theorem shaped_ints (xs : List Int) : SeqAt.shaped (.list (xs.map PyData.int)) = true := by
  unfold SeqAt.shaped
  rw [Bool.and_eq_true_iff]
  exact ⟨by simp only [PyData.canLay0]; exact canLay_ints xs, decide_eq_true (depth_ints xs)⟩
theorem eqD_nil {S : Sto} {n : Nat} {xs : List Int} (h : S[n]? = some (.lst (inD xs))) : eqD S (.ref n) (.lst []) = some xs.isEmpty := by
  unfold eqD
  have e1 : toP S (.ref n) = some (.list (xs.map PyData.int)) := by
    simp only [toP, h, toPs_ints S xs, Option.map_some]
  have e2 : toP S (.lst []) = some (.list []) := rfl
  have e3 : SeqAt.shaped (.list []) = true := rfl
  rw [e1, e2]
  simp only [shaped_ints, e3, and_self, if_true]
  cases xs <;> simp [PyData.eqv, PyData.eqvAll]
theorem at_last (xs : List Int) (x : Int) : L2.atI (inD (xs ++ [x])) (-1) = some (.int x) := by
  unfold L2.atI
  rw [ixN_m1 _ (by simp [inD])]
  simp [inD]
theorem last_ix (xs : List Int) (x : Int) : (inD (xs ++ [x]))[(inD (xs ++ [x])).length - 1]? = some (.int x) := by simp [inD]
theorem drop_last (xs : List Int) (x : Int) : (inD (xs ++ [x])).dropLast = inD xs := by simp [inD]
theorem draw_loop (a1 a2 : Option D) (st : Int) (T : Sto) : ∀ (k : Nat) (xs : List Int), xs.length < k → xs.length ≤ 60 →
    ∃ ys : List Int, ys.length ≤ 60 ∧ whileI (lb__law_draw_2 c) (lb__law_draw_1 c) k [some (.ref 1), a1, a2] (.lst (inD xs) :: .lst [.ref 0, .int st] :: T) = .nx [some (.ref 1), a1, a2] (.lst (inD ys) :: .lst [.ref 0, .int st] :: T)
  | 0, xs, h, _ => by omega
  | k + 1, xs, h, hl => by
    rcases List.eq_nil_or_concat xs with rfl | ⟨ys, x, rfl⟩
    · refine ⟨[], by simp, ?_⟩
      have e := eqD_nil (S := .lst (inD []) :: .lst [.ref 0, .int st] :: T) (n := 0) (xs := []) rfl
      simp [whileI, lb__law_draw_2, e, runB, env0, sSeq, sRet, sRetN, sIf, sSet, sDrop, sNx, sPar, sAsg, sAttr, sPut, sRaise, Tg.asg, Tg.asgs, eAnd, eOr, eNot, eIf, tAnd, tOr, tNot, tV, tVB, tYes, eCall, eFn, eMk, eMt, eFld, eBM, aC, aN, eV, eC, Z.e1, Z.e2, eTup, eLV, eLN, eChain, eSl, fIsi, tyD, isK, anyK, tNames, rB, tru, fLen, fTuple, fAbs, fInt, fAll, fAny, fIsN, fNotN, fIsB, fNotB, fNeg, seqOf, lstOf, isL, fLt_ii, fLe_ii, fGt_ii, fGe_ii, fSub_ii, fPlus, fMod_ii, fMul_ii, fDiv_ii, fEq, fNe, eqD_int, fIx, atI_0, atI_1, atI_2, lLc, lLc2, iSeq, iCall, fEnum, fZip, wipeD, putD, lSl, lRev, R.to_ok, R.bind_ok]
    · have e := eqD_nil (S := .lst (inD (ys ++ [x])) :: .lst [.ref 0, .int st] :: T) (n := 0) (xs := ys ++ [x]) rfl
      have ee : (ys ++ [x]).isEmpty = false := by simp
      rw [ee] at e
      rw [List.concat_eq_append] at h hl ⊢
      have hl' : ys.length + 1 ≤ 60 := by simpa using hl
      by_cases hx : x = 0
      · subst hx
        obtain ⟨zs, hz, h2⟩ := draw_loop a1 a2 st T k ys (by simp at h; omega) (by omega)
        refine ⟨zs, hz, ?_⟩
        have l1 := last_ix ys 0
        have ht : lb__law_draw_2 c [some (.ref 1), a1, a2] (.lst (inD (ys ++ [0])) :: .lst [.ref 0, .int st] :: T) = .ok true (.lst (inD (ys ++ [0])) :: .lst [.ref 0, .int st] :: T) := by
          simp [lb__law_draw_2, e, at_last, runB, env0, sSeq, sRet, sRetN, sIf, sSet, sDrop, sNx, sPar, sAsg, sAttr, sPut, sRaise, Tg.asg, Tg.asgs, eAnd, eOr, eNot, eIf, tAnd, tOr, tNot, tV, tVB, tYes, eCall, eFn, eMk, eMt, eFld, eBM, aC, aN, eV, eC, Z.e1, Z.e2, eTup, eLV, eLN, eChain, eSl, fIsi, tyD, isK, anyK, tNames, rB, tru, fLen, fTuple, fAbs, fInt, fAll, fAny, fIsN, fNotN, fIsB, fNotB, fNeg, seqOf, lstOf, isL, fLt_ii, fLe_ii, fGt_ii, fGe_ii, fSub_ii, fPlus, fMod_ii, fMul_ii, fDiv_ii, fEq, fNe, eqD_int, fIx, atI_0, atI_1, atI_2, lLc, lLc2, iSeq, iCall, fEnum, fZip, wipeD, putD, lSl, lRev, R.to_ok, R.bind_ok]
        have hb : lb__law_draw_1 c [some (.ref 1), a1, a2] (.lst (inD (ys ++ [0])) :: .lst [.ref 0, .int st] :: T) = .nx [some (.ref 1), a1, a2] (.lst (inD ys) :: .lst [.ref 0, .int st] :: T) := by
          simp [lb__law_draw_1, l1, drop_last, fPop, runB, env0, sSeq, sRet, sRetN, sIf, sSet, sDrop, sNx, sPar, sAsg, sAttr, sPut, sRaise, Tg.asg, Tg.asgs, eAnd, eOr, eNot, eIf, tAnd, tOr, tNot, tV, tVB, tYes, eCall, eFn, eMk, eMt, eFld, eBM, aC, aN, eV, eC, Z.e1, Z.e2, eTup, eLV, eLN, eChain, eSl, fIsi, tyD, isK, anyK, tNames, rB, tru, fLen, fTuple, fAbs, fInt, fAll, fAny, fIsN, fNotN, fIsB, fNotB, fNeg, seqOf, lstOf, isL, fLt_ii, fLe_ii, fGt_ii, fGe_ii, fSub_ii, fPlus, fMod_ii, fMul_ii, fDiv_ii, fEq, fNe, eqD_int, fIx, atI_0, atI_1, atI_2, lLc, lLc2, iSeq, iCall, fEnum, fZip, wipeD, putD, lSl, lRev, R.to_ok, R.bind_ok]
        simp [whileI, ht, hb, h2]
      · refine ⟨ys ++ [x], hl, ?_⟩
        simp [whileI, lb__law_draw_2, e, at_last, hx, runB, env0, sSeq, sRet, sRetN, sIf, sSet, sDrop, sNx, sPar, sAsg, sAttr, sPut, sRaise, Tg.asg, Tg.asgs, eAnd, eOr, eNot, eIf, tAnd, tOr, tNot, tV, tVB, tYes, eCall, eFn, eMk, eMt, eFld, eBM, aC, aN, eV, eC, Z.e1, Z.e2, eTup, eLV, eLN, eChain, eSl, fIsi, tyD, isK, anyK, tNames, rB, tru, fLen, fTuple, fAbs, fInt, fAll, fAny, fIsN, fNotN, fIsB, fNotB, fNeg, seqOf, lstOf, isL, fLt_ii, fLe_ii, fGt_ii, fGe_ii, fSub_ii, fPlus, fMod_ii, fMul_ii, fDiv_ii, fEq, fNe, eqD_int, fIx, atI_0, atI_1, atI_2, lLc, lLc2, iSeq, iCall, fEnum, fZip, wipeD, putD, lSl, lRev, R.to_ok, R.bind_ok]
theorem draw_i (T : Sto) (many : Nat) (h0 : 0 < many) (h1 : many ≤ 1000000) (S : Sto) (hS : Hp2 T S) : ∃ (r : Nat) (S' : Sto), r < many ∧ F__law_draw c [.ref 1, .int many] S = .ok (.int r) S' ∧ Hp2 T S' := by
  obtain ⟨xs, st, hl, rfl⟩ := hS
  obtain ⟨ys, hy, hw⟩ := draw_loop c (some (.int many)) none st T 64 xs (by omega) hl
  have m0 : (0 : Int) < (many : Int) := by omega
  have dv : ∀ i : Int, divOk i (many : Int) = true := fun i => divOk_of m0 (by
    have e : (many : Int).natAbs = many := by omega
    rw [e]
    exact Nat.lt_of_le_of_lt h1 (by decide +kernel))
  have dv32 : ∀ i : Int, divOk i 32 = true := fun i => divOk_of (by decide) (by decide +kernel)
  have mu : ∀ i : Int, mulOk i 48271 = true := fun i => mulOk_r (by decide)
  have rr : ∀ i : Int, ∃ r : Nat, r < many ∧ i % (many : Int) = (r : Int) := fun i => by
    have a := Int.emod_nonneg i (show (many : Int) ≠ 0 by omega)
    have b := Int.emod_lt_of_pos i m0
    exact ⟨(i % (many : Int)).toNat, by omega, by omega⟩
  rcases List.eq_nil_or_concat ys with rfl | ⟨zs, x, rfl⟩
  · have e := eqD_nil (S := .lst (inD []) :: .lst [.ref 0, .int st] :: T) (n := 0) (xs := []) rfl
    obtain ⟨r, hr, er⟩ := rr (((st * 48271 + 83) % 2147483647) / 32)
    refine ⟨r, .lst (inD []) :: .lst [.ref 0, .int ((st * 48271 + 83) % 2147483647)] :: T, hr, ?_, [], _, by simp, rfl⟩
    have i1 : ixN 2 1 = some 1 := by decide
    simp [F__law_draw, den__law_draw, hw, e, mu, dv32, m0, h0, er, i1, runB, env0, sSeq, sRet, sRetN, sIf, sSet, sDrop, sNx, sPar, sAsg, sAttr, sPut, sRaise, Tg.asg, Tg.asgs, eAnd, eOr, eNot, eIf, tAnd, tOr, tNot, tV, tVB, tYes, eCall, eFn, eMk, eMt, eFld, eBM, aC, aN, eV, eC, Z.e1, Z.e2, eTup, eLV, eLN, eChain, eSl, fIsi, tyD, isK, anyK, tNames, rB, tru, fLen, fTuple, fAbs, fInt, fAll, fAny, fIsN, fNotN, fIsB, fNotB, fNeg, seqOf, lstOf, isL, fLt_ii, fLe_ii, fGt_ii, fGe_ii, fSub_ii, fPlus, fMod_ii, fMul_ii, fDiv_ii, fEq, fNe, eqD_int, fIx, atI_0, atI_1, atI_2, lLc, lLc2, iSeq, iCall, fEnum, fZip, wipeD, putD, lSl, lRev, R.to_ok, R.bind_ok]
  · rw [List.concat_eq_append] at hw hy
    have e := eqD_nil (S := .lst (inD (zs ++ [x])) :: .lst [.ref 0, .int st] :: T) (n := 0) (xs := zs ++ [x]) rfl
    have ee : (zs ++ [x]).isEmpty = false := by simp
    rw [ee] at e
    obtain ⟨r, hr, er⟩ := rr x
    refine ⟨r, .lst (inD (zs ++ [x / (many : Int)])) :: .lst [.ref 0, .int st] :: T, hr, ?_, _, _, by simpa using hy, rfl⟩
    have l1 := last_ix zs x
    have hz : (inD zs).length < 16777216 := by
      have : zs.length + 1 ≤ 60 := by simpa using hy
      simp [inD]
      omega
    have ea : inD zs ++ [.int (x / (many : Int))] = inD (zs ++ [x / (many : Int)]) := by simp [inD]
    simp [F__law_draw, den__law_draw, hw, e, dv, m0, h0, er, fPop, fApp, l1, drop_last, hz, ea, runB, env0, sSeq, sRet, sRetN, sIf, sSet, sDrop, sNx, sPar, sAsg, sAttr, sPut, sRaise, Tg.asg, Tg.asgs, eAnd, eOr, eNot, eIf, tAnd, tOr, tNot, tV, tVB, tYes, eCall, eFn, eMk, eMt, eFld, eBM, aC, aN, eV, eC, Z.e1, Z.e2, eTup, eLV, eLN, eChain, eSl, fIsi, tyD, isK, anyK, tNames, rB, tru, fLen, fTuple, fAbs, fInt, fAll, fAny, fIsN, fNotN, fIsB, fNotB, fNeg, seqOf, lstOf, isL, fLt_ii, fLe_ii, fGt_ii, fGe_ii, fSub_ii, fPlus, fMod_ii, fMul_ii, fDiv_ii, fEq, fNe, eqD_int, fIx, atI_0, atI_1, atI_2, lLc, lLc2, iSeq, iCall, fEnum, fZip, wipeD, putD, lSl, lRev, R.to_ok, R.bind_ok]
theorem pick_i (T : Sto) (ds : List D) (h0 : 0 < ds.length) (h1 : ds.length ≤ 1000000) (S : Sto) (hS : Hp2 T S) : ∃ (r : Nat) (S' : Sto) (d : D), ds[r]? = some d ∧ F__law_pick c [.ref 1, .tup ds] S = .ok d S' ∧ Hp2 T S' := by
  obtain ⟨r, S', hr, h2, h3⟩ := draw_i c T ds.length h0 h1 S hS
  refine ⟨r, S', ds[r], by simp [hr], ?_, h3⟩
  have e : L2.atI ds ((r : Nat) : Int) = some ds[r] := by
    rw [atI_nat]
    simp [hr]
  simp [F__law_pick, den__law_pick, dl__law_draw, h2, e, runB, env0, sSeq, sRet, sRetN, sIf, sSet, sDrop, sNx, sPar, sAsg, sAttr, sPut, sRaise, Tg.asg, Tg.asgs, eAnd, eOr, eNot, eIf, tAnd, tOr, tNot, tV, tVB, tYes, eCall, eFn, eMk, eMt, eFld, eBM, aC, aN, eV, eC, Z.e1, Z.e2, eTup, eLV, eLN, eChain, eSl, fIsi, tyD, isK, anyK, tNames, rB, tru, fLen, fTuple, fAbs, fInt, fAll, fAny, fIsN, fNotN, fIsB, fNotB, fNeg, seqOf, lstOf, isL, fLt_ii, fLe_ii, fGt_ii, fGe_ii, fSub_ii, fPlus, fMod_ii, fMul_ii, fDiv_ii, fEq, fNe, eqD_int, fIx, atI_0, atI_1, atI_2, lLc, lLc2, iSeq, iCall, fEnum, fZip, wipeD, putD, lSl, lRev, R.to_ok, R.bind_ok]
end Z.k01
namespace Z.k01
open PySem L2 Z
variable (c : Ad)
theorem inD_mem {xs : List Int} {d : D} (h : d ∈ inD xs) : ∃ i, d = .int i := by
  obtain ⟨i, _, rfl⟩ := List.mem_map.mp h
  exact ⟨i, rfl⟩
theorem lcI_ints {j : Nat} {chk : Sto → Prop} {e : DE} {ρ0 : Env} {S : Sto} (g : Int → Int) (hc : chk S) (xs : List Int) (h : ∀ i, e (ρ0.set j (some (.int i))) S = .ok (.int (g i)) S) : lcI (.nm j) chk tYes e ρ0 (inD xs) S = .ok (inD (xs.map g)) S := by
  rw [lcI_map (fun d => .int (g (dI d))) hc (inD xs) fun d hd => ?_]
  · simp [inD, Function.comp_def]
  · obtain ⟨i, rfl⟩ := inD_mem hd
    exact ⟨_, asg_nm .., by rw [h]; rfl⟩
theorem lcI_intsF {j : Nat} {chk : Sto → Prop} {t : DT} {e : DE} {ρ0 : Env} {S : Sto} (p : Int → Bool) (hc : chk S) (xs : List Int) (h : ∀ i, t (ρ0.set j (some (.int i))) S = .ok (p i) S) (h2 : ∀ i, e (ρ0.set j (some (.int i))) S = .ok (.int i) S) : lcI (.nm j) chk t e ρ0 (inD xs) S = .ok (inD (xs.filter p)) S := by
  rw [lcI_filter (fun d => p (dI d)) (fun d => d) hc (inD xs) fun d hd => ?_]
  · simp [inD, List.filter_map, Function.comp_def]
  · obtain ⟨i, rfl⟩ := inD_mem hd
    exact ⟨_, asg_nm .., h i, fun _ => h2 i⟩
theorem cutA_inD (xs : List Int) (lo hi : Option Int) : cutA (inD xs) lo hi = inD (cutA xs lo hi) := by simp [cutA, inD]
theorem cut60 (xs : List Int) : (cutA xs none (some 60)).length ≤ 60 := by
  unfold cutA
  rw [List.length_take]
  have : HT.sIx xs.length xs.length (some 60) ≤ 60 := by
    rw [show (60 : Int) = ((60 : Nat) : Int) from rfl, HT.sIx_nat xs.length xs.length 60]
    omega
  omega
theorem inD_rev (xs : List Int) : (inD xs).reverse = inD xs.reverse := by simp [inD]
theorem heap_i (ns : List Int) : ∃ S, F__law_heap c [.scr (inD ns)] [] = .ok (.ref 1) S ∧ Hp2 [] S := by
  have p60 : powOk 10 60 = true := by decide +kernel
  have p18 : powOk 10 18 = true := by decide +kernel
  have m1 : mulOk (10 ^ 60) (10 ^ 60) = true := by decide +kernel
  have m2 : mulOk (10 ^ 60 * 10 ^ 60) (10 ^ 60) = true := by decide +kernel
  have m3 : ∀ i : Int, mulOk 2 i = true := fun i => mulOk_l (by decide)
  have m4 : ∀ i : Int, mulOk i 69621 = true := fun i => mulOk_r (by decide)
  obtain ⟨G, hG, hGe⟩ : ∃ G : Int, 0 < G ∧ ∀ ρ S, (Z.e2 fMul (Z.e2 fMul (Z.e2 fPow (eC (.int 10)) (eC (.int 60))) (Z.e2 fPow (eC (.int 10)) (eC (.int 60)))) (Z.e2 fPow (eC (.int 10)) (eC (.int 60)))) ρ S = .ok (.int G) S := by
    refine ⟨10 ^ 60 * 10 ^ 60 * 10 ^ 60, by decide +kernel, fun ρ S => ?_⟩
    simp only [Z.e2, eC, R.bind_ok, fPow_ii, if_pos p60]
    have e60 : ((10 : Int) ^ (60 : Int).toNat) = 10 ^ 60 := rfl
    rw [e60]
    simp only [fMul_ii, m1, if_true, R.bind_ok, m2]
  obtain ⟨TH, hTH⟩ : ∃ TH : Int, ∀ S, fPow (.int 10) (.int 18) S = .ok (.int TH) S := ⟨10 ^ 18, fun S => by
    rw [fPow_ii, if_pos p18]
    rfl⟩
  obtain ⟨zs, hz⟩ : ∃ zs, zs = cutA ns none (some 60) := ⟨_, rfl⟩
  have hzl : zs.length ≤ 60 := by rw [hz]; exact cut60 ns
  have hcut : cutA (inD ns) none (some 60) = inD zs := by rw [cutA_inD, hz]
  obtain ⟨ys, hy⟩ : ∃ ys, ys = zs.map fun i : Int => (2 * (if i < 0 then -i else i) + (if i < 0 then 1 else 0)) % G := ⟨_, rfl⟩
  have l2 : ∀ (a b d e : Option D), lcI (.nm 4) (fun _ => True) tYes (Z.e2 fMod (eCall fInt (aC (Z.e2 fPlus (Z.e2 fMul (eC (.int 2)) (eCall fAbs (aC (eV 4) aN))) (eCall fInt (aC (Z.e2 fLt (eV 4) (eC (.int 0))) aN))) aN)) (eV 1)) [a, some (.int G), b, d, e] (inD zs) [] = .ok (inD ys) [] := fun a b d e => by
    rw [hy]
    exact lcI_ints _ trivial zs fun i => by
      by_cases h : i < 0 <;> simp [m3, hG, h, runB, env0, sSeq, sRet, sRetN, sIf, sSet, sDrop, sNx, sPar, sAsg, sAttr, sPut, sRaise, Tg.asg, Tg.asgs, eAnd, eOr, eNot, eIf, tAnd, tOr, tNot, tV, tVB, tYes, eCall, eFn, eMk, eMt, eFld, eBM, aC, aN, eV, eC, Z.e1, Z.e2, eTup, eLV, eLN, eChain, eSl, fIsi, tyD, isK, anyK, tNames, rB, tru, fLen, fTuple, fAbs, fInt, fAll, fAny, fIsN, fNotN, fIsB, fNotB, fNeg, seqOf, lstOf, isL, fLt_ii, fLe_ii, fGt_ii, fGe_ii, fSub_ii, fPlus, fMod_ii, fMul_ii, fDiv_ii, fEq, fNe, eqD_int, fIx, atI_0, atI_1, atI_2, lLc, lLc2, iSeq, iCall, fEnum, fZip, wipeD, putD, lSl, lRev, R.to_ok, R.bind_ok]
  have hyl : ys.length ≤ 60 := by rw [hy, List.length_map]; exact hzl
  have lp : ∀ (a g : Option D) (st : Int), ∃ ρ' S', forI (.nm 4) (lb__law_heap_1 c) (fun _ => True) (inD ys) [a, g, some (.lst (inD ys)), some (.int st), none] [] = .nx ρ' S' ∧ S' = [] ∧ ∃ st' e, ρ' = [a, g, some (.lst (inD ys)), some (.int st'), e] := fun a g st => by
    refine forI_keep (fun ρ S => S = [] ∧ ∃ st' e, ρ = [a, g, some (.lst (inD ys)), some (.int st'), e]) _ _ _ ⟨rfl, st, none, rfl⟩ fun d hd ρ S ⟨hS, st', e, hρ⟩ => ?_
    subst hS hρ
    obtain ⟨i, rfl⟩ := inD_mem hd
    refine ⟨_, asg_nm .., _, _, .inl ?_, trivial, rfl, (st' * 69621 + i % 2147483563 + 71) % 2147483647, some (.int i), rfl⟩
    simp [lb__law_heap_1, m4, runB, env0, sSeq, sRet, sRetN, sIf, sSet, sDrop, sNx, sPar, sAsg, sAttr, sPut, sRaise, Tg.asg, Tg.asgs, eAnd, eOr, eNot, eIf, tAnd, tOr, tNot, tV, tVB, tYes, eCall, eFn, eMk, eMt, eFld, eBM, aC, aN, eV, eC, Z.e1, Z.e2, eTup, eLV, eLN, eChain, eSl, fIsi, tyD, isK, anyK, tNames, rB, tru, fLen, fTuple, fAbs, fInt, fAll, fAny, fIsN, fNotN, fIsB, fNotB, fNeg, seqOf, lstOf, isL, fLt_ii, fLe_ii, fGt_ii, fGe_ii, fSub_ii, fPlus, fMod_ii, fMul_ii, fDiv_ii, fEq, fNe, eqD_int, fIx, atI_0, atI_1, atI_2, lLc, lLc2, iSeq, iCall, fEnum, fZip, wipeD, putD, lSl, lRev, R.to_ok, R.bind_ok]
  obtain ⟨ρ', S', h1, rfl, st', e, rfl⟩ := lp (some (.scr (inD ns))) (some (.int G)) 20045
  have l3 : ∀ (a b d : Option D) (e : Option D), lcI (.nm 4) (fun _ => True) (tVB (Z.e2 fGe (eV 4) (Z.e2 fPow (eC (.int 10)) (eC (.int 18))))) (eV 4) [a, b, some (.lst (inD ys)), d, e] (inD ys) [] = .ok (inD (ys.filter fun i => decide (TH ≤ i))) [] := fun a b d e => lcI_intsF _ trivial ys (fun i => by simp [hTH, runB, env0, sSeq, sRet, sRetN, sIf, sSet, sDrop, sNx, sPar, sAsg, sAttr, sPut, sRaise, Tg.asg, Tg.asgs, eAnd, eOr, eNot, eIf, tAnd, tOr, tNot, tV, tVB, tYes, eCall, eFn, eMk, eMt, eFld, eBM, aC, aN, eV, eC, Z.e1, Z.e2, eTup, eLV, eLN, eChain, eSl, fIsi, tyD, isK, anyK, tNames, rB, tru, fLen, fTuple, fAbs, fInt, fAll, fAny, fIsN, fNotN, fIsB, fNotB, fNeg, seqOf, lstOf, isL, fLt_ii, fLe_ii, fGt_ii, fGe_ii, fSub_ii, fPlus, fMod_ii, fMul_ii, fDiv_ii, fEq, fNe, eqD_int, fIx, atI_0, atI_1, atI_2, lLc, lLc2, iSeq, iCall, fEnum, fZip, wipeD, putD, lSl, lRev, R.to_ok, R.bind_ok]) (fun i => by simp [runB, env0, sSeq, sRet, sRetN, sIf, sSet, sDrop, sNx, sPar, sAsg, sAttr, sPut, sRaise, Tg.asg, Tg.asgs, eAnd, eOr, eNot, eIf, tAnd, tOr, tNot, tV, tVB, tYes, eCall, eFn, eMk, eMt, eFld, eBM, aC, aN, eV, eC, Z.e1, Z.e2, eTup, eLV, eLN, eChain, eSl, fIsi, tyD, isK, anyK, tNames, rB, tru, fLen, fTuple, fAbs, fInt, fAll, fAny, fIsN, fNotN, fIsB, fNotB, fNeg, seqOf, lstOf, isL, fLt_ii, fLe_ii, fGt_ii, fGe_ii, fSub_ii, fPlus, fMod_ii, fMul_ii, fDiv_ii, fEq, fNe, eqD_int, fIx, atI_0, atI_1, atI_2, lLc, lLc2, iSeq, iCall, fEnum, fZip, wipeD, putD, lSl, lRev, R.to_ok, R.bind_ok])
  obtain ⟨xs, hx⟩ : ∃ xs, xs = ys.filter fun i => decide (TH ≤ i) := ⟨_, rfl⟩
  rw [← hx] at l3
  have hxl : xs.length ≤ 60 := by rw [hx]; exact Nat.le_trans (List.length_filter_le ..) hyl
  have hzl' : (inD zs).length ≤ 16777216 := by simp [inD]; omega
  have hyl' : (inD ys).length ≤ 16777216 := by simp [inD]; omega
  refine ⟨[.lst (inD xs.reverse), .lst [.ref 0, .int st']], ?_, xs.reverse, st', by rw [List.length_reverse]; exact hxl, rfl⟩
  refine run_rt ?_
  unfold den__law_heap
  rw [seq_set (hGe _ _)]
  rw [seq_par (d := .lst (inD ys)) (e := .int 20045) (S1 := []) (S' := []) (by simp [env0, oN, oS, hcut, hzl', l2, runB, env0, sSeq, sRet, sRetN, sIf, sSet, sDrop, sNx, sPar, sAsg, sAttr, sPut, sRaise, Tg.asg, Tg.asgs, eAnd, eOr, eNot, eIf, tAnd, tOr, tNot, tV, tVB, tYes, eCall, eFn, eMk, eMt, eFld, eBM, aC, aN, eV, eC, Z.e1, Z.e2, eTup, eLV, eLN, eChain, eSl, fIsi, tyD, isK, anyK, tNames, rB, tru, fLen, fTuple, fAbs, fInt, fAll, fAny, fIsN, fNotN, fIsB, fNotB, fNeg, seqOf, lstOf, isL, fLt_ii, fLe_ii, fGt_ii, fGe_ii, fSub_ii, fPlus, fMod_ii, fMul_ii, fDiv_ii, fEq, fNe, eqD_int, fIx, atI_0, atI_1, atI_2, lLc, lLc2, iSeq, iCall, fEnum, fZip, wipeD, putD, lSl, lRev, R.to_ok, R.bind_ok]) rfl]
  rw [seq_nx (a := sFor _ _ _) (by rw [for_nx (ds := inD ys) (chk := fun _ => True) (S1 := []) (by simp [env0, runB, env0, sSeq, sRet, sRetN, sIf, sSet, sDrop, sNx, sPar, sAsg, sAttr, sPut, sRaise, Tg.asg, Tg.asgs, eAnd, eOr, eNot, eIf, tAnd, tOr, tNot, tV, tVB, tYes, eCall, eFn, eMk, eMt, eFld, eBM, aC, aN, eV, eC, Z.e1, Z.e2, eTup, eLV, eLN, eChain, eSl, fIsi, tyD, isK, anyK, tNames, rB, tru, fLen, fTuple, fAbs, fInt, fAll, fAny, fIsN, fNotN, fIsB, fNotB, fNeg, seqOf, lstOf, isL, fLt_ii, fLe_ii, fGt_ii, fGe_ii, fSub_ii, fPlus, fMod_ii, fMul_ii, fDiv_ii, fEq, fNe, eqD_int, fIx, atI_0, atI_1, atI_2, lLc, lLc2, iSeq, iCall, fEnum, fZip, wipeD, putD, lSl, lRev, R.to_ok, R.bind_ok])]; exact h1)]
  refine ret_rt ?_
  simp [hyl', l3, inD_rev, runB, env0, sSeq, sRet, sRetN, sIf, sSet, sDrop, sNx, sPar, sAsg, sAttr, sPut, sRaise, Tg.asg, Tg.asgs, eAnd, eOr, eNot, eIf, tAnd, tOr, tNot, tV, tVB, tYes, eCall, eFn, eMk, eMt, eFld, eBM, aC, aN, eV, eC, Z.e1, Z.e2, eTup, eLV, eLN, eChain, eSl, fIsi, tyD, isK, anyK, tNames, rB, tru, fLen, fTuple, fAbs, fInt, fAll, fAny, fIsN, fNotN, fIsB, fNotB, fNeg, seqOf, lstOf, isL, fLt_ii, fLe_ii, fGt_ii, fGe_ii, fSub_ii, fPlus, fMod_ii, fMul_ii, fDiv_ii, fEq, fNe, eqD_int, fIx, atI_0, atI_1, atI_2, lLc, lLc2, iSeq, iCall, fEnum, fZip, wipeD, putD, lSl, lRev, R.to_ok, R.bind_ok]
end Z.k01
namespace Z.k01
open PySem L2 Z
variable (c : Ad) (S : Sto)
/-! ### alike is what is the same -/
def Lk : Nat → D → Prop
  | q + 1, .int _ => True
  | q + 1, .str s => SeqAt.shaped (.str s) = true
  | q + 1, .tup ds => ds.length ≤ 1000 ∧ ∀ d ∈ ds, Lk q d
  | _, _ => False
theorem zipD_same : ∀ (ds : List D) (d : D), d ∈ zipD ds ds → ∃ x ∈ ds, d = .tup [x, x]
  | [], _, h => by simp [zipD] at h
  | y :: ys, d, h => by
    simp only [zipD, List.mem_cons] at h
    rcases h with rfl | h
    · exact ⟨y, List.mem_cons_self .., rfl⟩
    · obtain ⟨x, hx, e⟩ := zipD_same ys d h
      exact ⟨x, List.mem_cons_of_mem _ hx, e⟩
theorem eqD_strs (s : Str) (h : SeqAt.shaped (.str s) = true) : eqD S (.str s) (.str s) = some true := by
  unfold eqD
  simp only [toP, h, and_self, if_true, PyData.eqv]
  simp
theorem like_same : ∀ (q : Nat) (d : D), Lk q d → F__law_like c q [d, d] S = .ok (.bl true) S
  | 0, d, h => by cases d <;> exact h.elim
  | q + 1, .int i, _ => by simp [F__law_like, den__law_like, runB, env0, sSeq, sRet, sRetN, sIf, sSet, sDrop, sNx, sPar, sAsg, sAttr, sPut, sRaise, Tg.asg, Tg.asgs, eAnd, eOr, eNot, eIf, tAnd, tOr, tNot, tV, tVB, tYes, eCall, eFn, eMk, eMt, eFld, eBM, aC, aN, eV, eC, Z.e1, Z.e2, eTup, eLV, eLN, eChain, eSl, fIsi, tyD, isK, anyK, tNames, rB, tru, fLen, fTuple, fAbs, fInt, fAll, fAny, fIsN, fNotN, fIsB, fNotB, fNeg, seqOf, lstOf, isL, fLt_ii, fLe_ii, fGt_ii, fGe_ii, fSub_ii, fPlus, fMod_ii, fMul_ii, fDiv_ii, fEq, fNe, eqD_int, fIx, atI_0, atI_1, atI_2, lLc, lLc2, iSeq, iCall, fEnum, fZip, wipeD, putD, lSl, lRev, R.to_ok, R.bind_ok]
  | q + 1, .str s, h => by
    have h' : SeqAt.shaped (.str s) = true := h
    simp [F__law_like, den__law_like, eqD_strs S s h', runB, env0, sSeq, sRet, sRetN, sIf, sSet, sDrop, sNx, sPar, sAsg, sAttr, sPut, sRaise, Tg.asg, Tg.asgs, eAnd, eOr, eNot, eIf, tAnd, tOr, tNot, tV, tVB, tYes, eCall, eFn, eMk, eMt, eFld, eBM, aC, aN, eV, eC, Z.e1, Z.e2, eTup, eLV, eLN, eChain, eSl, fIsi, tyD, isK, anyK, tNames, rB, tru, fLen, fTuple, fAbs, fInt, fAll, fAny, fIsN, fNotN, fIsB, fNotB, fNeg, seqOf, lstOf, isL, fLt_ii, fLe_ii, fGt_ii, fGe_ii, fSub_ii, fPlus, fMod_ii, fMul_ii, fDiv_ii, fEq, fNe, eqD_int, fIx, atI_0, atI_1, atI_2, lLc, lLc2, iSeq, iCall, fEnum, fZip, wipeD, putD, lSl, lRev, R.to_ok, R.bind_ok]
  | q + 1, .tup ds, h => by
    obtain ⟨h1, h2⟩ := h
    have g : ∀ a b, lcI (.tp [.nm 2, .nm 3]) (fun _ => True ∧ True) tYes (eFn 2 (F__law_like c q) dl__law_like (aC (eV 2) (aC (eV 3) aN))) [a, b, none, none] (zipD ds ds) S = .ok ((zipD ds ds).map fun _ => .bl true) S := fun a b => by
      refine lcI_map (fun _ => .bl true) ⟨trivial, trivial⟩ _ fun d hd => ?_
      obtain ⟨x, hx, rfl⟩ := zipD_same ds d hd
      refine ⟨_, asg_p2 .., ?_⟩
      simp [dl__law_like, like_same q x (h2 x hx), runB, env0, sSeq, sRet, sRetN, sIf, sSet, sDrop, sNx, sPar, sAsg, sAttr, sPut, sRaise, Tg.asg, Tg.asgs, eAnd, eOr, eNot, eIf, tAnd, tOr, tNot, tV, tVB, tYes, eCall, eFn, eMk, eMt, eFld, eBM, aC, aN, eV, eC, Z.e1, Z.e2, eTup, eLV, eLN, eChain, eSl, fIsi, tyD, isK, anyK, tNames, rB, tru, fLen, fTuple, fAbs, fInt, fAll, fAny, fIsN, fNotN, fIsB, fNotB, fNeg, seqOf, lstOf, isL, fLt_ii, fLe_ii, fGt_ii, fGe_ii, fSub_ii, fPlus, fMod_ii, fMul_ii, fDiv_ii, fEq, fNe, eqD_int, fIx, atI_0, atI_1, atI_2, lLc, lLc2, iSeq, iCall, fEnum, fZip, wipeD, putD, lSl, lRev, R.to_ok, R.bind_ok]
    have g2 : bools ((zipD ds ds).map fun _ => D.bl true) = some ((zipD ds ds).map fun _ => true) := bools_true _
    have g3 : (zipD ds ds).length ≤ 16777216 := by rw [zipD_len]; omega
    have g' := g (some (.tup ds)) (some (.tup ds))
    simp only [and_self] at g'
    simp [F__law_like, den__law_like, g', g2, g3, runB, env0, sSeq, sRet, sRetN, sIf, sSet, sDrop, sNx, sPar, sAsg, sAttr, sPut, sRaise, Tg.asg, Tg.asgs, eAnd, eOr, eNot, eIf, tAnd, tOr, tNot, tV, tVB, tYes, eCall, eFn, eMk, eMt, eFld, eBM, aC, aN, eV, eC, Z.e1, Z.e2, eTup, eLV, eLN, eChain, eSl, fIsi, tyD, isK, anyK, tNames, rB, tru, fLen, fTuple, fAbs, fInt, fAll, fAny, fIsN, fNotN, fIsB, fNotB, fNeg, seqOf, lstOf, isL, fLt_ii, fLe_ii, fGt_ii, fGe_ii, fSub_ii, fPlus, fMod_ii, fMul_ii, fDiv_ii, fEq, fNe, eqD_int, fIx, atI_0, atI_1, atI_2, lLc, lLc2, iSeq, iCall, fEnum, fZip, wipeD, putD, lSl, lRev, R.to_ok, R.bind_ok]
  | q + 1, .non, h => h.elim
  | q + 1, .bl _, h => h.elim
  | q + 1, .lst _, h => h.elim
  | q + 1, .scr _, h => h.elim
  | q + 1, .ref _, h => h.elim
  | q + 1, .adr _, h => h.elim
  | q + 1, .ty _, h => h.elim
end Z.k01
namespace Z.k01
open PySem L2 Z
variable (c : Ad) (S : Sto)
theorem like_bl (q : Nat) (b : Bool) : F__law_like c (q + 1) [.bl b, .bl b] S = .ok (.bl true) S := by
  cases b <;> simp [F__law_like, den__law_like, runB, env0, sSeq, sRet, sRetN, sIf, sSet, sDrop, sNx, sPar, sAsg, sAttr, sPut, sRaise, Tg.asg, Tg.asgs, eAnd, eOr, eNot, eIf, tAnd, tOr, tNot, tV, tVB, tYes, eCall, eFn, eMk, eMt, eFld, eBM, aC, aN, eV, eC, Z.e1, Z.e2, eTup, eLV, eLN, eChain, eSl, fIsi, tyD, isK, anyK, tNames, rB, tru, fLen, fTuple, fAbs, fInt, fAll, fAny, fIsN, fNotN, fIsB, fNotB, fNeg, seqOf, lstOf, isL, fLt_ii, fLe_ii, fGt_ii, fGe_ii, fSub_ii, fPlus, fMod_ii, fMul_ii, fDiv_ii, fEq, fNe, eqD_int, fIx, atI_0, atI_1, atI_2, lLc, lLc2, iSeq, iCall, fEnum, fZip, wipeD, putD, lSl, lRev, R.to_ok, R.bind_ok]
/-! ### calls told -/
def ic (m : Nat) (k : Cl) (x y : D) : Bool := match x, y with
  | .int i, .int v => decide (0 ≤ i) && decide (i < m) && (decide (0 ≤ v) && decide (v < (k i.toNat).1))
  | _, _ => false
section
variable {n m t : Nat} {k : Cl} {f : Fl}
theorem is_call_i (h : S[t]? = some (thing c n m k f)) (i v : Int) : F_is_call c [.ref t, .int i, .int v] S = .ok (.bl (ic m k (.int i) (.int v))) S := by
  by_cases h1 : 0 ≤ i ∧ i < m
  · obtain ⟨j, rfl⟩ : ∃ j : Nat, i = j := ⟨i.toNat, by omega⟩
    have hj : j < m := by omega
    have e1 : (j : Int) ≤ (m : Int) - 1 := by omega
    have e2 : L2.atI (callsD m k) ((j : Nat) : Int) = some (.tup [.int (k j).1, .int (k j).2]) := by rw [atI_nat, callsD_at hj]
    have e3 : (decide (0 ≤ v) && decide (v ≤ ((k j).1 : Int) - 1)) = (decide (0 ≤ v) && decide (v < ((k j).1 : Int))) := by
      congr 1
      exact decide_eq_decide.mpr (by omega)
    simp [F_is_call, den_is_call, dl_is_number, is_number_i, h, thing, look_calls, callsD_len, e1, e2, e3, ic, hj, runB, env0, sSeq, sRet, sRetN, sIf, sSet, sDrop, sNx, sPar, sAsg, sAttr, sPut, sRaise, Tg.asg, Tg.asgs, eAnd, eOr, eNot, eIf, tAnd, tOr, tNot, tV, tVB, tYes, eCall, eFn, eMk, eMt, eFld, eBM, aC, aN, eV, eC, Z.e1, Z.e2, eTup, eLV, eLN, eChain, eSl, fIsi, tyD, isK, anyK, tNames, rB, tru, fLen, fTuple, fAbs, fInt, fAll, fAny, fIsN, fNotN, fIsB, fNotB, fNeg, seqOf, lstOf, isL, fLt_ii, fLe_ii, fGt_ii, fGe_ii, fSub_ii, fPlus, fMod_ii, fMul_ii, fDiv_ii, fEq, fNe, eqD_int, fIx, atI_0, atI_1, atI_2, lLc, lLc2, iSeq, iCall, fEnum, fZip, wipeD, putD, lSl, lRev, R.to_ok, R.bind_ok]
  · have e : (decide (0 ≤ i) && decide (i ≤ (m : Int) - 1)) = false := by
      rw [Bool.and_eq_false_iff]
      by_cases g : 0 ≤ i
      · exact .inr (decide_eq_false (by omega))
      · exact .inl (decide_eq_false g)
    have e' : (decide (0 ≤ i) && decide (i < (m : Int))) = false := by
      rw [Bool.and_eq_false_iff]
      by_cases g : 0 ≤ i
      · exact .inr (decide_eq_false (by omega))
      · exact .inl (decide_eq_false g)
    have n1 := is_number_i c S i ((m : Int) - 1)
    rw [e] at n1
    have s1 : eFld c.cs "calls" (eV 0) [some (.ref t), some (.int i), some (.int v)] S = .ok (.tup (callsD m k)) S := by simp [eFld, Z.e1, eV, h, thing, look_calls]
    have s2 : fLen [.tup (callsD m k)] S = .ok (.int m) S := by simp [fLen, seqOf, callsD_len]
    simp [F_is_call, den_is_call, dl_is_number, n1, s1, s2, ic, e', runB, env0, sRet, eAnd, eCall, eFn, aC, aN, eV, eC, Z.e2, fSub_ii, tru]
theorem is_call_no1 (h : S[t]? = some (thing c n m k f)) {x y : D} (hx : NoI c x) : F_is_call c [.ref t, x, y] S = .ok (.bl false) S := by
  have s1 : eFld c.cs "calls" (eV 0) [some (.ref t), some x, some y] S = .ok (.tup (callsD m k)) S := by simp [eFld, Z.e1, eV, h, thing, look_calls]
  have s2 : fLen [.tup (callsD m k)] S = .ok (.int m) S := by simp [fLen, seqOf, callsD_len]
  simp [F_is_call, den_is_call, dl_is_number, is_number_no c S hx, s1, s2, runB, env0, sRet, eAnd, eCall, eFn, aC, aN, eV, eC, Z.e2, fSub_ii, tru]
theorem is_call_no2 (h : S[t]? = some (thing c n m k f)) (i : Int) {y : D} (hy : NoI c y) : F_is_call c [.ref t, .int i, y] S = .ok (.bl false) S := by
  have s1 : eFld c.cs "calls" (eV 0) [some (.ref t), some (.int i), some y] S = .ok (.tup (callsD m k)) S := by simp [eFld, Z.e1, eV, h, thing, look_calls]
  have s2 : fLen [.tup (callsD m k)] S = .ok (.int m) S := by simp [fLen, seqOf, callsD_len]
  have n1 := is_number_i c S i ((m : Int) - 1)
  cases e : (decide (0 ≤ i) && decide (i ≤ (m : Int) - 1)) with
  | false =>
    rw [e] at n1
    simp [F_is_call, den_is_call, dl_is_number, n1, s1, s2, runB, env0, sRet, eAnd, eCall, eFn, aC, aN, eV, eC, Z.e2, fSub_ii, tru]
  | true =>
    rw [e] at n1
    rw [Bool.and_eq_true_iff] at e
    have g1 := of_decide_eq_true e.1
    have g2 := of_decide_eq_true e.2
    obtain ⟨j, rfl⟩ : ∃ j : Nat, i = j := ⟨i.toNat, by omega⟩
    have hj : j < m := by omega
    have e2 : L2.atI (callsD m k) ((j : Nat) : Int) = some (.tup [.int (k j).1, .int (k j).2]) := by rw [atI_nat, callsD_at hj]
    simp [F_is_call, den_is_call, dl_is_number, n1, s1, s2, e2, is_number_no c S hy, runB, env0, sRet, eAnd, eCall, eFn, aC, aN, eV, eC, Z.e2, fSub_ii, fIx, atI_0, tru]
end
end Z.k01
namespace Z.k01
open PySem L2 Z
variable (c : Ad) (S : Sto)
/-! ### a pair among pairs -/
def pP (p : Nat × Nat) : PyData := .tuple [.int p.1, .int p.2]
theorem toPs_pairs : ∀ l : List (Nat × Nat), toPs S (l.map pD) = some (l.map pP)
  | [] => rfl
  | p :: l => by
    have ih := toPs_pairs l
    rw [List.map_cons, List.map_cons]
    simp [toPs, toP, pD, pP, ih]
theorem lay_pairs : ∀ l : List (Nat × Nat), PyData.canLayAll0 (l.map pP) = true
  | [] => rfl
  | p :: l => by simp [PyData.canLayAll0, PyData.canLay0, pP, lay_pairs l]
theorem depth_pairs (l : List (Nat × Nat)) : PyData.depth (.list (l.map pP)) ≤ 64 := by
  have : ∀ ys : List (Nat × Nat), PyData.depthAll (ys.map pP) ≤ 5 := by
    intro ys
    induction ys with
    | nil => simp [PyData.depthAll]
    | cons y ys ih => simp [PyData.depthAll, PyData.depth, pP]; omega
  have := this l
  simp only [PyData.depth]
  omega
theorem shaped_pairs (l : List (Nat × Nat)) : SeqAt.shaped (.list (l.map pP)) = true := by
  unfold SeqAt.shaped
  rw [Bool.and_eq_true_iff]
  exact ⟨by simp only [PyData.canLay0]; exact lay_pairs l, decide_eq_true (depth_pairs l)⟩
theorem shaped_pair (i v : Int) : SeqAt.shaped (.tuple [.int i, .int v]) = true := by
  unfold SeqAt.shaped
  rw [Bool.and_eq_true_iff]
  exact ⟨rfl, decide_eq_true (by simp [PyData.depth, PyData.depthAll])⟩
theorem in_pairs (l : List (Nat × Nat)) (i v : Int) : fIn (.tup [.int i, .int v]) (.lst (l.map pD)) S = .ok (.bl (l.any fun p => decide ((p.1 : Int) = i) && decide ((p.2 : Int) = v))) S := by
  have e1 : toP S (.tup [.int i, .int v]) = some (.tuple [.int i, .int v]) := by simp [toP, toPs]
  have e2 : toP S (.lst (l.map pD)) = some (.list (l.map pP)) := by simp [toP, toPs_pairs]
  unfold fIn
  rw [e1, e2]
  simp only [shaped_pair, shaped_pairs, and_self, if_true]
  congr 2
  rw [List.any_map]
  congr 1
  funext p
  simp only [pP, PyData.eqv, PyData.eqvAll, Function.comp_apply, Bool.and_true]
  rfl
section
variable {n m t : Nat} {k : Cl} {f : Fl}
theorem cv_any (i v : Int) : ((cvN m k).any fun p => decide ((p.1 : Int) = i) && decide ((p.2 : Int) = v)) = ic m k (.int i) (.int v) := by
  rw [Bool.eq_iff_iff, List.any_eq_true]
  simp only [ic, Bool.and_eq_true, decide_eq_true_eq]
  constructor
  · rintro ⟨p, hp, rfl, rfl⟩
    obtain ⟨h1, h2⟩ := cvN_mem hp
    simp only [Int.toNat_natCast]
    omega
  · rintro ⟨⟨h1, h2⟩, h3, h4⟩
    obtain ⟨a, rfl⟩ : ∃ a : Nat, i = a := ⟨i.toNat, by omega⟩
    obtain ⟨b, rfl⟩ : ∃ b : Nat, v = b := ⟨v.toNat, by omega⟩
    simp only [Int.toNat_natCast] at h4
    exact ⟨(a, b), mem_cvN (by omega) (by omega), rfl, rfl⟩
theorem cvD_pD : cvD m k = (cvN m k).map pD := rfl
end
end Z.k01
namespace Z.k01
open PySem L2 Z
variable (c : Ad) (S : Sto)
section
variable {n m t : Nat} {k : Cl} {f : Fl}
theorem ty_thing (h : S[t]? = some (thing c n m k f)) : tyD [c.Thing] S (.ref t) = some (.inr c.Thing) := by simp [tyD, h, thing]
/-- is_part of (thing, x) -/
theorem is_part_i (h : S[t]? = some (thing c n m k f)) (i : Int) : F_is_part c [.tup [.ref t, .int i]] S = .ok (.bl (decide (0 ≤ i) && decide (i ≤ (n : Int) - 1))) S := by
  have e1 := states_i c S h
  have e2 := ty_thing c S h
  simp [F_is_part, den_is_part, dl_is_number, dl_states_of, e1, h, thing, is_number_i, runB, env0, sSeq, sRet, sRetN, sIf, sSet, sDrop, sNx, sPar, sAsg, sAttr, sPut, sRaise, Tg.asg, Tg.asgs, eAnd, eOr, eNot, eIf, tAnd, tOr, tNot, tV, tVB, tYes, eCall, eFn, eMk, eMt, eFld, eBM, aC, aN, eV, eC, Z.e1, Z.e2, eTup, eLV, eLN, eChain, eSl, fIsi, tyD, isK, anyK, tNames, rB, tru, fLen, fTuple, fAbs, fInt, fAll, fAny, fIsN, fNotN, fIsB, fNotB, fNeg, seqOf, lstOf, isL, fLt_ii, fLe_ii, fGt_ii, fGe_ii, fSub_ii, fPlus, fMod_ii, fMul_ii, fDiv_ii, fEq, fNe, eqD_int, fIx, atI_0, atI_1, atI_2, lLc, lLc2, iSeq, iCall, fEnum, fZip, wipeD, putD, lSl, lRev, R.to_ok, R.bind_ok]
theorem is_part_no (h : S[t]? = some (thing c n m k f)) {x : D} (hx : NoI c x) : F_is_part c [.tup [.ref t, x]] S = .ok (.bl false) S := by
  have e1 := states_i c S h
  have e2 := ty_thing c S h
  simp [F_is_part, den_is_part, dl_is_number, dl_states_of, e1, h, thing, is_number_no c S hx, runB, env0, sSeq, sRet, sRetN, sIf, sSet, sDrop, sNx, sPar, sAsg, sAttr, sPut, sRaise, Tg.asg, Tg.asgs, eAnd, eOr, eNot, eIf, tAnd, tOr, tNot, tV, tVB, tYes, eCall, eFn, eMk, eMt, eFld, eBM, aC, aN, eV, eC, Z.e1, Z.e2, eTup, eLV, eLN, eChain, eSl, fIsi, tyD, isK, anyK, tNames, rB, tru, fLen, fTuple, fAbs, fInt, fAll, fAny, fIsN, fNotN, fIsB, fNotB, fNeg, seqOf, lstOf, isL, fLt_ii, fLe_ii, fGt_ii, fGe_ii, fSub_ii, fPlus, fMod_ii, fMul_ii, fDiv_ii, fEq, fNe, eqD_int, fIx, atI_0, atI_1, atI_2, lLc, lLc2, iSeq, iCall, fEnum, fZip, wipeD, putD, lSl, lRev, R.to_ok, R.bind_ok]
theorem is_part_non : F_is_part c [.non] S = .ok (.bl false) S := by simp [F_is_part, den_is_part, runB, env0, sSeq, sRet, sRetN, sIf, sSet, sDrop, sNx, sPar, sAsg, sAttr, sPut, sRaise, Tg.asg, Tg.asgs, eAnd, eOr, eNot, eIf, tAnd, tOr, tNot, tV, tVB, tYes, eCall, eFn, eMk, eMt, eFld, eBM, aC, aN, eV, eC, Z.e1, Z.e2, eTup, eLV, eLN, eChain, eSl, fIsi, tyD, isK, anyK, tNames, rB, tru, fLen, fTuple, fAbs, fInt, fAll, fAny, fIsN, fNotN, fIsB, fNotB, fNeg, seqOf, lstOf, isL, fLt_ii, fLe_ii, fGt_ii, fGe_ii, fSub_ii, fPlus, fMod_ii, fMul_ii, fDiv_ii, fEq, fNe, eqD_int, fIx, atI_0, atI_1, atI_2, lLc, lLc2, iSeq, iCall, fEnum, fZip, wipeD, putD, lSl, lRev, R.to_ok, R.bind_ok]
theorem is_part_lst (ds : List D) : F_is_part c [.lst ds] S = .ok (.bl false) S := by simp [F_is_part, den_is_part, runB, env0, sSeq, sRet, sRetN, sIf, sSet, sDrop, sNx, sPar, sAsg, sAttr, sPut, sRaise, Tg.asg, Tg.asgs, eAnd, eOr, eNot, eIf, tAnd, tOr, tNot, tV, tVB, tYes, eCall, eFn, eMk, eMt, eFld, eBM, aC, aN, eV, eC, Z.e1, Z.e2, eTup, eLV, eLN, eChain, eSl, fIsi, tyD, isK, anyK, tNames, rB, tru, fLen, fTuple, fAbs, fInt, fAll, fAny, fIsN, fNotN, fIsB, fNotB, fNeg, seqOf, lstOf, isL, fLt_ii, fLe_ii, fGt_ii, fGe_ii, fSub_ii, fPlus, fMod_ii, fMul_ii, fDiv_ii, fEq, fNe, eqD_int, fIx, atI_0, atI_1, atI_2, lLc, lLc2, iSeq, iCall, fEnum, fZip, wipeD, putD, lSl, lRev, R.to_ok, R.bind_ok]
theorem is_part_ref (h : S[t]? = some (thing c n m k f)) : F_is_part c [.ref t] S = .ok (.bl false) S := by
  simp [F_is_part, den_is_part, h, thing, runB, env0, sSeq, sRet, sRetN, sIf, sSet, sDrop, sNx, sPar, sAsg, sAttr, sPut, sRaise, Tg.asg, Tg.asgs, eAnd, eOr, eNot, eIf, tAnd, tOr, tNot, tV, tVB, tYes, eCall, eFn, eMk, eMt, eFld, eBM, aC, aN, eV, eC, Z.e1, Z.e2, eTup, eLV, eLN, eChain, eSl, fIsi, tyD, isK, anyK, tNames, rB, tru, fLen, fTuple, fAbs, fInt, fAll, fAny, fIsN, fNotN, fIsB, fNotB, fNeg, seqOf, lstOf, isL, fLt_ii, fLe_ii, fGt_ii, fGe_ii, fSub_ii, fPlus, fMod_ii, fMul_ii, fDiv_ii, fEq, fNe, eqD_int, fIx, atI_0, atI_1, atI_2, lLc, lLc2, iSeq, iCall, fEnum, fZip, wipeD, putD, lSl, lRev, R.to_ok, R.bind_ok]
theorem is_part_1 (a : D) : F_is_part c [.tup [a]] S = .ok (.bl false) S := by simp [F_is_part, den_is_part, runB, env0, sSeq, sRet, sRetN, sIf, sSet, sDrop, sNx, sPar, sAsg, sAttr, sPut, sRaise, Tg.asg, Tg.asgs, eAnd, eOr, eNot, eIf, tAnd, tOr, tNot, tV, tVB, tYes, eCall, eFn, eMk, eMt, eFld, eBM, aC, aN, eV, eC, Z.e1, Z.e2, eTup, eLV, eLN, eChain, eSl, fIsi, tyD, isK, anyK, tNames, rB, tru, fLen, fTuple, fAbs, fInt, fAll, fAny, fIsN, fNotN, fIsB, fNotB, fNeg, seqOf, lstOf, isL, fLt_ii, fLe_ii, fGt_ii, fGe_ii, fSub_ii, fPlus, fMod_ii, fMul_ii, fDiv_ii, fEq, fNe, eqD_int, fIx, atI_0, atI_1, atI_2, lLc, lLc2, iSeq, iCall, fEnum, fZip, wipeD, putD, lSl, lRev, R.to_ok, R.bind_ok]
theorem is_part_3 (a b d : D) : F_is_part c [.tup [a, b, d]] S = .ok (.bl false) S := by simp [F_is_part, den_is_part, runB, env0, sSeq, sRet, sRetN, sIf, sSet, sDrop, sNx, sPar, sAsg, sAttr, sPut, sRaise, Tg.asg, Tg.asgs, eAnd, eOr, eNot, eIf, tAnd, tOr, tNot, tV, tVB, tYes, eCall, eFn, eMk, eMt, eFld, eBM, aC, aN, eV, eC, Z.e1, Z.e2, eTup, eLV, eLN, eChain, eSl, fIsi, tyD, isK, anyK, tNames, rB, tru, fLen, fTuple, fAbs, fInt, fAll, fAny, fIsN, fNotN, fIsB, fNotB, fNeg, seqOf, lstOf, isL, fLt_ii, fLe_ii, fGt_ii, fGe_ii, fSub_ii, fPlus, fMod_ii, fMul_ii, fDiv_ii, fEq, fNe, eqD_int, fIx, atI_0, atI_1, atI_2, lLc, lLc2, iSeq, iCall, fEnum, fZip, wipeD, putD, lSl, lRev, R.to_ok, R.bind_ok]
theorem is_part_n2 (b : D) : F_is_part c [.tup [.non, b]] S = .ok (.bl false) S := by simp [F_is_part, den_is_part, runB, env0, sSeq, sRet, sRetN, sIf, sSet, sDrop, sNx, sPar, sAsg, sAttr, sPut, sRaise, Tg.asg, Tg.asgs, eAnd, eOr, eNot, eIf, tAnd, tOr, tNot, tV, tVB, tYes, eCall, eFn, eMk, eMt, eFld, eBM, aC, aN, eV, eC, Z.e1, Z.e2, eTup, eLV, eLN, eChain, eSl, fIsi, tyD, isK, anyK, tNames, rB, tru, fLen, fTuple, fAbs, fInt, fAll, fAny, fIsN, fNotN, fIsB, fNotB, fNeg, seqOf, lstOf, isL, fLt_ii, fLe_ii, fGt_ii, fGe_ii, fSub_ii, fPlus, fMod_ii, fMul_ii, fDiv_ii, fEq, fNe, eqD_int, fIx, atI_0, atI_1, atI_2, lLc, lLc2, iSeq, iCall, fEnum, fZip, wipeD, putD, lSl, lRev, R.to_ok, R.bind_ok]
theorem is_part_t2 (a : List D) (b : D) : F_is_part c [.tup [.tup a, b]] S = .ok (.bl false) S := by simp [F_is_part, den_is_part, runB, env0, sSeq, sRet, sRetN, sIf, sSet, sDrop, sNx, sPar, sAsg, sAttr, sPut, sRaise, Tg.asg, Tg.asgs, eAnd, eOr, eNot, eIf, tAnd, tOr, tNot, tV, tVB, tYes, eCall, eFn, eMk, eMt, eFld, eBM, aC, aN, eV, eC, Z.e1, Z.e2, eTup, eLV, eLN, eChain, eSl, fIsi, tyD, isK, anyK, tNames, rB, tru, fLen, fTuple, fAbs, fInt, fAll, fAny, fIsN, fNotN, fIsB, fNotB, fNeg, seqOf, lstOf, isL, fLt_ii, fLe_ii, fGt_ii, fGe_ii, fSub_ii, fPlus, fMod_ii, fMul_ii, fDiv_ii, fEq, fNe, eqD_int, fIx, atI_0, atI_1, atI_2, lLc, lLc2, iSeq, iCall, fEnum, fZip, wipeD, putD, lSl, lRev, R.to_ok, R.bind_ok]
end
end Z.k01
namespace Z.k01
open PySem L2 Z
variable (c : Ad) (S : Sto)
/-! ### next states, of each the first pair -/
def unl : List (Nat × Nat) → List (Nat × Nat)
  | [p, q] => if p.2 = q.2 then [p] else if p.2 < q.2 then [p, q] else [q, p]
  | l => l
def aft (l : List (Nat × Nat)) : List Nat := (unl l).map (·.2)
def natD (xs : List Nat) : List D := xs.map fun a => .int (a : Nat)
theorem sort1 (a : Int) : gSort S [.lst [.int a]] = .ok [.int a] S := by
  simp [gSort, lstOf, intsD, sortK, insK]
theorem sort2 (a b : Int) : gSort S [.lst [.int a, .int b]] = .ok (if a ≤ b then [.int a, .int b] else [.int b, .int a]) S := by
  by_cases h : a ≤ b <;> simp [gSort, lstOf, intsD, sortK, insK, keyT, h]
section
variable {n m t : Nat} {k : Cl} {f : Fl}
theorem app_get {S G : Sto} {t : Nat} {o : O} (h : S[t]? = some o) : (S ++ G)[t]? = some o := by
  rw [List.getElem?_append_left (get_lt h)]
  exact h
theorem unlike_i (h : S[t]? = some (thing c n m k f)) (s i v : Nat) (hs : s < n) (hi : i < m) (hv : v < (k i).1) (hl : LotOk (k i).2 n (f s i v)) : ∃ G, F_unlike_pairs c [.ref t, .int s, .int i, .int v] S = .ok (lotD (unl (f s i v))) (S ++ G) := by
  have e := pairs_i c (S ++ [.dct []]) (app_get h) s i v hs hi hv
  rcases hl with ⟨p, hp, h⟩ | ⟨p, q, hp, h1, h2, h3⟩
  · rw [hp] at e ⊢
    refine ⟨[.dct [(.inl (p.2 : Nat), pD p)]], ?_⟩
    simp [F_unlike_pairs, den_unlike_pairs, dl_pairs_of, eDct, sFor, forI, lb_unlike_pairs_1, eSetd, gSetd, isDc, dKey, valA, putA, e, lotD, pD, lList, gList, listD, keyD, lSort, sort1, lcI, fDGet, unl, runB, env0, sSeq, sRet, sRetN, sIf, sSet, sDrop, sNx, sPar, sAsg, sAttr, sPut, sRaise, Tg.asg, Tg.asgs, eAnd, eOr, eNot, eIf, tAnd, tOr, tNot, tV, tVB, tYes, eCall, eFn, eMk, eMt, eFld, eBM, aC, aN, eV, eC, Z.e1, Z.e2, eTup, eLV, eLN, eChain, eSl, fIsi, tyD, isK, anyK, tNames, rB, tru, fLen, fTuple, fAbs, fInt, fAll, fAny, fIsN, fNotN, fIsB, fNotB, fNeg, seqOf, lstOf, isL, fLt_ii, fLe_ii, fGt_ii, fGe_ii, fSub_ii, fPlus, fMod_ii, fMul_ii, fDiv_ii, fEq, fNe, eqD_int, fIx, atI_0, atI_1, atI_2, lLc, lLc2, iSeq, iCall, fEnum, fZip, wipeD, putD, lSl, lRev, R.to_ok, R.bind_ok]
  · rw [hp] at e ⊢
    have n0 : ∀ a b : Nat, ((a : Int) = (b : Int)) ↔ a = b := fun a b => by omega
    by_cases g1 : p.2 = q.2
    · refine ⟨[.dct [(.inl (p.2 : Nat), pD p)]], ?_⟩
      simp [F_unlike_pairs, den_unlike_pairs, dl_pairs_of, eDct, sFor, forI, lb_unlike_pairs_1, eSetd, gSetd, isDc, dKey, valA, putA, e, lotD, pD, lList, gList, listD, keyD, lSort, sort1, lcI, fDGet, unl, g1, runB, env0, sSeq, sRet, sRetN, sIf, sSet, sDrop, sNx, sPar, sAsg, sAttr, sPut, sRaise, Tg.asg, Tg.asgs, eAnd, eOr, eNot, eIf, tAnd, tOr, tNot, tV, tVB, tYes, eCall, eFn, eMk, eMt, eFld, eBM, aC, aN, eV, eC, Z.e1, Z.e2, eTup, eLV, eLN, eChain, eSl, fIsi, tyD, isK, anyK, tNames, rB, tru, fLen, fTuple, fAbs, fInt, fAll, fAny, fIsN, fNotN, fIsB, fNotB, fNeg, seqOf, lstOf, isL, fLt_ii, fLe_ii, fGt_ii, fGe_ii, fSub_ii, fPlus, fMod_ii, fMul_ii, fDiv_ii, fEq, fNe, eqD_int, fIx, atI_0, atI_1, atI_2, lLc, lLc2, iSeq, iCall, fEnum, fZip, wipeD, putD, lSl, lRev, R.to_ok, R.bind_ok]
    · have g1' : ¬ q.2 = p.2 := fun x => g1 x.symm
      refine ⟨[.dct [(.inl (p.2 : Nat), pD p), (.inl (q.2 : Nat), pD q)]], ?_⟩
      by_cases g2 : p.2 < q.2
      · have g3 : p.2 ≤ q.2 := by omega
        simp [F_unlike_pairs, den_unlike_pairs, dl_pairs_of, eDct, sFor, forI, lb_unlike_pairs_1, eSetd, gSetd, isDc, dKey, valA, putA, e, lotD, pD, lList, gList, listD, keyD, lSort, sort2, lcI, fDGet, unl, g1, g1', g2, g3, n0, runB, env0, sSeq, sRet, sRetN, sIf, sSet, sDrop, sNx, sPar, sAsg, sAttr, sPut, sRaise, Tg.asg, Tg.asgs, eAnd, eOr, eNot, eIf, tAnd, tOr, tNot, tV, tVB, tYes, eCall, eFn, eMk, eMt, eFld, eBM, aC, aN, eV, eC, Z.e1, Z.e2, eTup, eLV, eLN, eChain, eSl, fIsi, tyD, isK, anyK, tNames, rB, tru, fLen, fTuple, fAbs, fInt, fAll, fAny, fIsN, fNotN, fIsB, fNotB, fNeg, seqOf, lstOf, isL, fLt_ii, fLe_ii, fGt_ii, fGe_ii, fSub_ii, fPlus, fMod_ii, fMul_ii, fDiv_ii, fEq, fNe, eqD_int, fIx, atI_0, atI_1, atI_2, lLc, lLc2, iSeq, iCall, fEnum, fZip, wipeD, putD, lSl, lRev, R.to_ok, R.bind_ok]
      · have g3 : ¬ p.2 ≤ q.2 := by omega
        simp [F_unlike_pairs, den_unlike_pairs, dl_pairs_of, eDct, sFor, forI, lb_unlike_pairs_1, eSetd, gSetd, isDc, dKey, valA, putA, e, lotD, pD, lList, gList, listD, keyD, lSort, sort2, lcI, fDGet, unl, g1, g1', g2, g3, n0, runB, env0, sSeq, sRet, sRetN, sIf, sSet, sDrop, sNx, sPar, sAsg, sAttr, sPut, sRaise, Tg.asg, Tg.asgs, eAnd, eOr, eNot, eIf, tAnd, tOr, tNot, tV, tVB, tYes, eCall, eFn, eMk, eMt, eFld, eBM, aC, aN, eV, eC, Z.e1, Z.e2, eTup, eLV, eLN, eChain, eSl, fIsi, tyD, isK, anyK, tNames, rB, tru, fLen, fTuple, fAbs, fInt, fAll, fAny, fIsN, fNotN, fIsB, fNotB, fNeg, seqOf, lstOf, isL, fLt_ii, fLe_ii, fGt_ii, fGe_ii, fSub_ii, fPlus, fMod_ii, fMul_ii, fDiv_ii, fEq, fNe, eqD_int, fIx, atI_0, atI_1, atI_2, lLc, lLc2, iSeq, iCall, fEnum, fZip, wipeD, putD, lSl, lRev, R.to_ok, R.bind_ok]
/-! ### found states -/
def add (xs as : List Nat) : List Nat := as.foldl (fun xs a => if a ∈ xs then xs else xs ++ [a]) xs
theorem unl_cases {kk : Nat} (l : List (Nat × Nat)) (h : LotOk kk n l) : (∃ p, unl l = [p] ∧ p.2 < n) ∨ ∃ p q, unl l = [p, q] ∧ p.2 < q.2 ∧ p.2 < n ∧ q.2 < n := by
  rcases h with ⟨p, rfl, h⟩ | ⟨p, q, rfl, h1, h2, h3⟩
  · exact .inl ⟨p, rfl, h.b⟩
  · have e : unl [p, q] = if p.2 = q.2 then [p] else if p.2 < q.2 then [p, q] else [q, p] := rfl
    rw [e]
    by_cases g1 : p.2 = q.2
    · exact .inl ⟨p, by rw [if_pos g1], h1.b⟩
    · by_cases g2 : p.2 < q.2
      · exact .inr ⟨p, q, by rw [if_neg g1, if_pos g2], g2, h1.b, h2.b⟩
      · exact .inr ⟨q, p, by rw [if_neg g1, if_neg g2], by omega, h2.b, h1.b⟩
theorem add_unl {kk : Nat} (l : List (Nat × Nat)) (h : LotOk kk n l) (xs : List Nat) : add xs (aft l) = xs ++ ((unl l).filter fun p => !xs.any fun x => decide (x = p.2)).map (·.2) := by
  have e : ∀ (xs : List Nat) a, (xs.any fun x => decide (x = a)) = decide (a ∈ xs) := fun xs a => by
    rw [Bool.eq_iff_iff]
    simp
  unfold add aft
  rcases unl_cases l h with ⟨p, h1, _⟩ | ⟨p, q, h1, h2, _⟩
  · rw [h1]
    by_cases g : p.2 ∈ xs <;> simp [e, g]
  · rw [h1]
    have g3 : ¬ q.2 = p.2 := by omega
    by_cases g : p.2 ∈ xs <;> by_cases g2 : q.2 ∈ xs <;> simp [e, g, g2, g3]
/-- what a list of found states keeps -/
def Fo (n : Nat) (xs : List Nat) : Prop := xs.Nodup ∧ ∀ x ∈ xs, x < n
theorem nodup_len : ∀ (n : Nat) (xs : List Nat), Fo n xs → xs.length ≤ n
  | 0, xs, h => by
    cases xs with
    | nil => simp
    | cons x xs => exact absurd (h.2 x (List.mem_cons_self ..)) (by omega)
  | n + 1, xs, h => by
    by_cases hn : n ∈ xs
    · have l := List.length_erase_of_mem hn
      have q := nodup_len n (xs.erase n) ⟨h.1.erase n, fun x hx => by
        have := (List.Nodup.mem_erase_iff h.1).mp hx
        have := h.2 x this.2
        omega⟩
      omega
    · have q := nodup_len n xs ⟨h.1, fun x hx => by
        have := h.2 x hx
        have : x ≠ n := fun e => hn (e ▸ hx)
        omega⟩
      omega
theorem fo_add : ∀ (as : List Nat) (xs : List Nat), Fo n xs → (∀ a ∈ as, a < n) → Fo n (add xs as) ∧ ∃ r, add xs as = xs ++ r
  | [], xs, h, _ => ⟨h, [], by simp [add]⟩
  | a :: as, xs, h, ha => by
    have h0 := ha a (List.mem_cons_self ..)
    have e : add xs (a :: as) = add (if a ∈ xs then xs else xs ++ [a]) as := rfl
    rw [e]
    by_cases g : a ∈ xs
    · rw [if_pos g]
      exact fo_add as xs h fun b hb => ha b (List.mem_cons_of_mem _ hb)
    · rw [if_neg g]
      have q := fo_add as (xs ++ [a]) ⟨by
        rw [List.nodup_append]
        exact ⟨h.1, by simp, fun x hx y hy => by
          simp at hy
          subst hy
          exact fun e => g (e ▸ hx)⟩, fun x hx => by
        rw [List.mem_append] at hx
        rcases hx with hx | hx
        · exact h.2 x hx
        · simp at hx
          subst hx
          exact h0⟩ fun b hb => ha b (List.mem_cons_of_mem _ hb)
      obtain ⟨q1, r, q2⟩ := q
      exact ⟨q1, a :: r, by rw [q2]; simp⟩
theorem aft_lt {kk : Nat} {l : List (Nat × Nat)} (h : LotOk kk n l) : ∀ a ∈ aft l, a < n := fun a ha => by
  unfold aft at ha
  rcases unl_cases l h with ⟨p, h1, h2⟩ | ⟨p, q, h1, h2, h3, h4⟩
  · rw [h1] at ha
    simp at ha
    omega
  · rw [h1] at ha
    simp at ha
    omega
/-- one state's turn -/
def stepN (m : Nat) (k : Cl) (f : Fl) (s : Nat) (xs : List Nat) : List Nat := (cvN m k).foldl (fun xs p => add xs (aft (f s p.1 p.2))) xs
def reachN (m : Nat) (k : Cl) (f : Fl) : Nat → List Nat → Nat → List Nat
  | 0, xs, _ => xs
  | q + 1, xs, a => match xs[a]? with
    | some s => reachN m k f q (stepN m k f s xs) (a + 1)
    | none => xs
end
end Z.k01
namespace Z.k01
open PySem L2 Z
variable (c : Ad) (S : Sto)
theorem natD_inD (xs : List Nat) : natD xs = inD (xs.map fun a : Nat => (a : Int)) := by simp [natD, inD]
theorem natD_get {xs : List Nat} {a s : Nat} (h : xs[a]? = some s) : (natD xs)[a]? = some (.int (s : Nat)) := by simp [natD, h]
theorem natD_len (xs : List Nat) : (natD xs).length = xs.length := by simp [natD]
theorem natD_app (xs ys : List Nat) : natD xs ++ natD ys = natD (xs ++ ys) := by simp [natD]
theorem shaped_int (i : Int) : SeqAt.shaped (.int i) = true := by
  unfold SeqAt.shaped
  rw [Bool.and_eq_true_iff]
  exact ⟨rfl, decide_eq_true (by simp [PyData.depth])⟩
theorem any_int (xs : List Nat) (a : Nat) : (((xs.map fun a : Nat => (a : Int)).map PyData.int).any fun z => PyData.eqv z (.int (a : Nat))) = xs.any fun x => decide (x = a) := by
  rw [List.any_map, List.any_map]
  congr 1
  funext x
  simp only [PyData.eqv, Function.comp_apply]
  exact decide_eq_decide.mpr (by omega)
theorem notin_ref {q : Nat} {xs : List Nat} (h : S[q]? = some (.lst (natD xs))) (a : Nat) : fNotIn (.int (a : Nat)) (.ref q) S = .ok (.bl (!xs.any fun x => decide (x = a))) S := by
  have e1 : toP S (.int (a : Nat)) = some (.int (a : Nat)) := rfl
  have e2 : toP S (.ref q) = some (.list ((xs.map fun a : Nat => (a : Int)).map PyData.int)) := by
    simp only [toP, h, natD_inD, toPs_ints S, Option.map_some]
  unfold fNotIn
  rw [e1, e2]
  simp only [shaped_int, shaped_ints, and_self, if_true, any_int]
theorem toPs_nat (S : Sto) : ∀ xs : List Nat, toPs S (natD xs) = some ((xs.map fun a : Nat => (a : Int)).map PyData.int)
  | [] => rfl
  | x :: xs => by
    have ih := toPs_nat S xs
    unfold natD at ih ⊢
    simp [toPs, toP, ih]
theorem notin_lst (xs : List Nat) (a : Nat) : fNotIn (.int (a : Nat)) (.lst (natD xs)) S = .ok (.bl (!xs.any fun x => decide (x = a))) S := by
  have e1 : toP S (.int (a : Nat)) = some (.int (a : Nat)) := rfl
  have e2 : toP S (.lst (natD xs)) = some (.list ((xs.map fun a : Nat => (a : Int)).map PyData.int)) := by
    simp only [toP, toPs_nat S, Option.map_some]
  unfold fNotIn
  rw [e1, e2]
  simp only [shaped_int, shaped_ints, and_self, if_true, any_int]
section
variable {n m t : Nat} {k : Cl} {f : Fl}
theorem fo_step (o : Okk n m k f) {s : Nat} (hs : s < n) : ∀ (ps : List (Nat × Nat)) (xs : List Nat), (∀ p ∈ ps, p ∈ cvN m k) → Fo n xs → Fo n (ps.foldl (fun xs p => add xs (aft (f s p.1 p.2))) xs) ∧ ∃ r, (ps.foldl (fun xs p => add xs (aft (f s p.1 p.2))) xs) = xs ++ r
  | [], xs, _, h => ⟨h, [], by simp⟩
  | p :: ps, xs, hp, h => by
    obtain ⟨p1, p2⟩ := cvN_mem (hp p (List.mem_cons_self ..))
    obtain ⟨h1, r, h2⟩ := fo_add (aft (f s p.1 p.2)) xs h (aft_lt (o.fo s p.1 p.2 hs p1 p2))
    obtain ⟨h3, r2, h4⟩ := fo_step o hs ps _ (fun q hq => hp q (List.mem_cons_of_mem _ hq)) h1
    refine ⟨h3, r ++ r2, ?_⟩
    show ps.foldl _ (add xs (aft (f s p.1 p.2))) = _
    rw [h4, h2, List.append_assoc]
theorem set_mid {S G : Sto} {x y : O} : (S ++ x :: G).set S.length y = S ++ y :: G := by simp
theorem get_mid {S G : Sto} {x : O} : (S ++ x :: G)[S.length]? = some x := by simp
theorem rs_1 (o : Okk n m k f) (h : S[t]? = some (thing c n m k f)) {xs : List Nat} {at' s : Nat} {p : Nat × Nat} (hp : p ∈ cvN m k) (hs : s < n) (hx : xs[at']? = some s) (hl : Fo n xs) (G : Sto) (st a6 a7 : Option D) : ∃ G', lb_reached_states_1 c [some (.ref t), st, some (.ref S.length), some (.int (at' : Nat)), some (.int (p.1 : Nat)), some (.int (p.2 : Nat)), a6, a7] (S ++ .lst (natD xs) :: G) = .nx [some (.ref t), st, some (.ref S.length), some (.int (at' : Nat)), some (.int (p.1 : Nat)), some (.int (p.2 : Nat)), a6, a7] (S ++ .lst (natD (add xs (aft (f s p.1 p.2)))) :: G') := by
  obtain ⟨p1, p2⟩ := cvN_mem hp
  have hL := o.fo s p.1 p.2 hs p1 p2
  obtain ⟨G2, hu⟩ := unlike_i c (S ++ .lst (natD xs) :: G) (app_get h) s p.1 p.2 hs p1 p2 hL
  have hq : (S ++ O.lst (natD xs) :: G)[S.length]? = some (.lst (natD xs)) := get_mid
  have e2 : (S ++ O.lst (natD xs) :: G) ++ G2 = S ++ O.lst (natD xs) :: (G ++ G2) := by simp
  rw [e2] at hu
  have hq2 : (S ++ O.lst (natD xs) :: (G ++ G2))[S.length]? = some (.lst (natD xs)) := get_mid
  have ix : fIx (.ref S.length) (.int (at' : Nat)) (S ++ O.lst (natD xs) :: G) = .ok (.int (s : Nat)) (S ++ O.lst (natD xs) :: G) := by
    simp [fIx, atI_nat, natD_get hx]
  have lc : ∀ a0 a1 a3 a4 a5, lcI (.tp [.nm 6, .nm 7]) (fun _ => True) (tVB (Z.e2 fNotIn (eV 7) (eV 2))) (eV 7) [a0, a1, some (.ref S.length), a3, a4, a5, none, none] ((unl (f s p.1 p.2)).map pD) (S ++ O.lst (natD xs) :: (G ++ G2)) = .ok (natD (((unl (f s p.1 p.2)).filter fun p => !xs.any fun x => decide (x = p.2)).map (·.2))) (S ++ O.lst (natD xs) :: (G ++ G2)) := fun a0 a1 a3 a4 a5 => by
    rw [lcI_filter (fun d => match d with
      | .tup [_, .int a] => !xs.any fun x => decide (x = a.toNat)
      | _ => false) (fun d => match d with
      | .tup [_, b] => b
      | d => d) trivial _ fun d hd => ?_]
    · congr 1
      unfold natD
      rw [List.filter_map, List.map_map, List.map_map]
      congr 1
    · obtain ⟨r, hr, rfl⟩ := List.mem_map.mp hd
      refine ⟨_, asg_p2 .., ?_, ?_⟩
      · have q := notin_ref (S ++ O.lst (natD xs) :: (G ++ G2)) hq2 r.2
        simp [tVB, Z.e2, eV, q, tru, pD]
      · intro _
        simp [eV, pD]
  have hn := o.n2
  have hle := nodup_len n xs hl
  have hu2 : ((unl (f s p.1 p.2)).map pD).length ≤ 2 := by
    rcases unl_cases _ hL with ⟨p, h1, _⟩ | ⟨p, q, h1, _⟩ <;> rw [h1] <;> simp
  obtain ⟨U, hU⟩ : ∃ U, U = (unl (f s p.1 p.2)).map pD := ⟨_, rfl⟩
  obtain ⟨Y, hY⟩ : ∃ Y, Y = ((unl (f s p.1 p.2)).filter fun p => !xs.any fun x => decide (x = p.2)).map (·.2) := ⟨_, rfl⟩
  have hYl : Y.length ≤ 2 := by
    rw [hY, List.length_map]
    have := List.length_filter_le (fun p : Nat × Nat => !xs.any fun x => decide (x = p.2)) (unl (f s p.1 p.2))
    rw [List.length_map] at hu2
    omega
  refine ⟨G ++ G2, ?_⟩
  rw [add_unl _ hL xs, ← hY, ← natD_app]
  unfold lotD at hu
  rw [← hU] at hu hu2 lc
  rw [← hY] at lc
  have g1 : U.length ≤ 16777216 := by omega
  have g2 : (natD xs).length + (natD Y).length ≤ 16777216 := by rw [natD_len, natD_len]; omega
  simp [lb_reached_states_1, sDrop, eBM, isL, hq, dl_unlike_pairs, ix, hu, lc, lLc, iSeq, wipeD, eFn, aC, aN, eV, eLV, Z.e2, g1, fExt, hq2, lstH, g2]
theorem rs_2 (o : Okk n m k f) (h : S[t]? = some (thing c n m k f)) {xs : List Nat} {at' s : Nat} (hs : s < n) (hx : xs[at']? = some s) (hl : Fo n xs) (G : Sto) (st a4 a5 a6 a7 : Option D) : ∃ G' b4 b5 b6 b7, lb_reached_states_2 c [some (.ref t), st, some (.ref S.length), some (.int (at' : Nat)), a4, a5, a6, a7] (S ++ .lst (natD xs) :: G) = .nx [some (.ref t), st, some (.ref S.length), some (.int ((at' + 1 : Nat) : Int)), b4, b5, b6, b7] (S ++ .lst (natD (stepN m k f s xs)) :: G') := by
  obtain ⟨ρ', S', h1, ps, ys, e1, _, _, _, e2, G', b4, b5, b6, b7, rfl, rfl⟩ := forI_inv (tg := .tp [.nm 4, .nm 5]) (chk := fun _ => True) (b := lb_reached_states_1 c) (fun r ρ S' => ∃ ps ys, r = ps.map pD ∧ (∀ p ∈ ps, p ∈ cvN m k) ∧ Fo n ys ∧ ys[at']? = some s ∧ ps.foldl (fun xs p => add xs (aft (f s p.1 p.2))) ys = stepN m k f s xs ∧ ∃ G' b4 b5 b6 b7, ρ = [some (.ref t), st, some (.ref S.length), some (.int (at' : Nat)), b4, b5, b6, b7] ∧ S' = S ++ .lst (natD ys) :: G') (cvD m k) [some (.ref t), st, some (.ref S.length), some (.int (at' : Nat)), a4, a5, a6, a7] (S ++ .lst (natD xs) :: G) ⟨cvN m k, xs, rfl, fun p h => h, hl, hx, rfl, G, a4, a5, a6, a7, rfl, rfl⟩ fun d r ρ S' hP => by
    obtain ⟨ps, ys, e1, hps, hF, hx', e2, G', b4, b5, b6, b7, rfl, rfl⟩ := hP
    cases ps with
    | nil => cases e1
    | cons p ps =>
      rw [List.map_cons] at e1
      cases e1
      have hp := hps p (List.mem_cons_self ..)
      obtain ⟨p1, p2⟩ := cvN_mem hp
      obtain ⟨G2, hb⟩ := rs_1 c S o h hp hs hx' hF G' st b6 b7
      obtain ⟨q1, q2, q3⟩ := fo_add (aft (f s p.1 p.2)) ys hF (aft_lt (o.fo s p.1 p.2 hs p1 p2))
      refine ⟨_, asg_p2 .., _, _, .inl ?_, trivial, ps, add ys (aft (f s p.1 p.2)), rfl, fun q hq => hps q (List.mem_cons_of_mem _ hq), q1, ?_, e2, G2, some (.int (p.1 : Nat)), some (.int (p.2 : Nat)), b6, b7, rfl, rfl⟩
      · simpa using hb
      · rw [q3, List.getElem?_append_left (get_lt hx')]
        exact hx'
  cases ps with
  | cons p ps => cases e1
  | nil =>
    refine ⟨G', b4, b5, b6, b7, ?_⟩
    have hc := calls_i c (S ++ .lst (natD xs) :: G) o (app_get h)
    have e2' : ys = stepN m k f s xs := e2
    rw [← e2']
    have fo : sFor (.tp [(.nm 4), (.nm 5)]) (iSeq (eFn 1 (F_calls_of c) (dl_calls_of.drop 0) (aC (eV 0) aN))) (lb_reached_states_1 c) [some (.ref t), st, some (.ref S.length), some (.int (at' : Nat)), a4, a5, a6, a7] (S ++ .lst (natD xs) :: G) = .nx [some (.ref t), st, some (.ref S.length), some (.int (at' : Nat)), b4, b5, b6, b7] (S ++ .lst (natD ys) :: G') := by
      rw [for_nx (ds := cvD m k) (chk := fun _ => True) (S1 := S ++ .lst (natD xs) :: G) (by simp [iSeq, dl_calls_of, eFn, aC, aN, eV, hc])]
      exact h1
    unfold lb_reached_states_2
    rw [seq_nx fo]
    simp [sAug, eC]
theorem rs_w (o : Okk n m k f) (h : S[t]? = some (thing c n m k f)) (st : Option D) : ∀ (q : Nat) (xs : List Nat) (at' : Nat) (G : Sto) (a4 a5 a6 a7 : Option D), Fo n xs → n + 1 ≤ q + at' → at' ≤ xs.length → ∃ G' b3 b4 b5 b6 b7, whileI (lb_reached_states_3 c) (lb_reached_states_2 c) q [some (.ref t), st, some (.ref S.length), some (.int (at' : Nat)), a4, a5, a6, a7] (S ++ .lst (natD xs) :: G) = .nx [some (.ref t), st, some (.ref S.length), b3, b4, b5, b6, b7] (S ++ .lst (natD (reachN m k f q xs at')) :: G')
  | 0, xs, at', G, a4, a5, a6, a7, hF, h1, h2 => by
    have := nodup_len n xs hF
    omega
  | q + 1, xs, at', G, a4, a5, a6, a7, hF, h1, h2 => by
    have hq : (S ++ O.lst (natD xs) :: G)[S.length]? = some (.lst (natD xs)) := get_mid
    have ht : lb_reached_states_3 c [some (.ref t), st, some (.ref S.length), some (.int (at' : Nat)), a4, a5, a6, a7] (S ++ .lst (natD xs) :: G) = .ok (decide (at' < xs.length)) (S ++ .lst (natD xs) :: G) := by
      have e : decide ((at' : Int) < (xs.length : Int)) = decide (at' < xs.length) := decide_eq_decide.mpr (by omega)
      simp [lb_reached_states_3, tVB, Z.e2, eV, eCall, aC, aN, fLen, seqOf, hq, natD_len, fLt_ii, tru, e]
    by_cases g : at' < xs.length
    · obtain ⟨s, hx⟩ := get_of g
      have hs := hF.2 s (List.mem_of_getElem? hx)
      obtain ⟨G', b4, b5, b6, b7, hb⟩ := rs_2 c S o h hs hx hF G st a4 a5 a6 a7
      obtain ⟨f1, r, f2⟩ := fo_step o hs (cvN m k) xs (fun p hp => hp) hF
      have f2' : stepN m k f s xs = xs ++ r := f2
      obtain ⟨G2, c3, c4, c5, c6, c7, hw⟩ := rs_w o h st q (stepN m k f s xs) (at' + 1) G' b4 b5 b6 b7 f1 (by omega) (by rw [f2', List.length_append]; omega)
      refine ⟨G2, c3, c4, c5, c6, c7, ?_⟩
      have e : reachN m k f (q + 1) xs at' = reachN m k f q (stepN m k f s xs) (at' + 1) := by simp [reachN, hx]
      rw [e]
      simp only [decide_eq_true g] at ht
      simp only [whileI, ht, R.to_ok, if_true, hb]
      exact hw
    · have e : reachN m k f (q + 1) xs at' = xs := by simp [reachN, List.getElem?_eq_none (show xs.length ≤ at' by omega)]
      refine ⟨G, some (.int (at' : Nat)), a4, a5, a6, a7, ?_⟩
      rw [e]
      simp only [decide_eq_false g] at ht
      simp [whileI, ht]
theorem reached_i (o : Okk n m k f) (h : S[t]? = some (thing c n m k f)) {s : Nat} (hs : s < n) (hn : n ≤ 7) : ∃ G, F_reached_states c [.ref t, .int s] S = .ok (.tup (natD (reachN m k f 8 [s] 0))) (S ++ G) := by
  obtain ⟨G', b3, b4, b5, b6, b7, hw⟩ := rs_w c S o h (some (.int (s : Nat))) 8 [s] 0 [] none none none none ⟨by simp, by simpa using hs⟩ (by omega) (by simp)
  refine ⟨.lst (natD (reachN m k f 8 [s] 0)) :: G', ?_⟩
  have e0 : natD [s] = [.int (s : Nat)] := rfl
  rw [e0] at hw
  have hq : (S ++ O.lst (natD (reachN m k f 8 [s] 0)) :: G')[S.length]? = some (.lst (natD (reachN m k f 8 [s] 0))) := get_mid
  have a0 : sAsg (.tp [(.nm 2), (.nm 3)]) (eTup (aC (eLN (aC (eV 1) aN)) (aC (eC (.int 0)) aN))) [some (.ref t), some (.int (s : Nat)), none, none, none, none, none, none] S = .nx [some (.ref t), some (.int (s : Nat)), some (.ref S.length), some (.int ((0 : Nat) : Int)), none, none, none, none] (S ++ [.lst [.int (s : Nat)]]) := by
    simp [sAsg, eTup, aC, aN, eLN, eV, eC, Tg.asg, Tg.asgs, seqOf]
  show runB 8 (den_reached_states c) [.ref t, .int s] S = _
  refine run_rt ?_
  unfold den_reached_states
  show sSeq _ _ [some (.ref t), some (.int (s : Nat)), none, none, none, none, none, none] S = _
  rw [seq_nx a0, seq_nx hw]
  simp [sRet, eCall, aC, aN, eV, fTuple, seqOf]
end
end Z.k01
namespace Z.k01
open PySem L2 Z
variable (c : Ad) (S : Sto)
theorem uset1 (a : Int) : gSortSet S [.lst [.int a]] = .ok [.int a] S := by
  simp [gSortSet, lstOf, intsD, usortK, insU]
theorem uset2 (a b : Int) : gSortSet S [.lst [.int a, .int b]] = .ok (if a = b then [.int a] else if a < b then [.int a, .int b] else [.int b, .int a]) S := by
  by_cases h : a = b
  · subst h
    simp [gSortSet, lstOf, intsD, usortK, insU, keyT]
  · by_cases h2 : a < b
    · simp [gSortSet, lstOf, intsD, usortK, insU, keyT, h, h2]
    · have h3 : b < a := by omega
      simp [gSortSet, lstOf, intsD, usortK, insU, keyT, h, h2, h3]
section
variable {n m t : Nat} {k : Cl} {f : Fl}
theorem uset_aft {kk : Nat} {l : List (Nat × Nat)} (h : LotOk kk n l) : gSortSet S [.lst (l.map fun p => .int (p.2 : Nat))] = .ok (natD (aft l)) S := by
  rcases h with ⟨p, rfl, h⟩ | ⟨p, q, rfl, h1, h2, h3⟩
  · simp only [List.map_cons, List.map_nil, uset1]
    simp [aft, unl, natD]
  · have n0 : ∀ a b : Nat, ((a : Int) = (b : Int)) ↔ a = b := fun a b => by omega
    simp only [List.map_cons, List.map_nil, uset2]
    by_cases g1 : p.2 = q.2
    · simp [aft, unl, natD, g1]
    · by_cases g2 : p.2 < q.2 <;> simp [aft, unl, natD, g1, g2, n0]
theorem lr_1 (T C st at' a5 a6 a8 a9 : Option D) (xs : List Nat) (hx : xs.length ≤ 256) (a : Nat) : lb__law_reached_1 c [T, C, st, some (.lst (natD xs)), at', a5, a6, some (.int (a : Nat)), a8, a9] S = .nx [T, C, st, some (.lst (natD (if a ∈ xs then xs else xs ++ [a]))), at', a5, a6, some (.int (a : Nat)), a8, a9] S := by
  have e : (xs.any fun x => decide (x = a)) = decide (a ∈ xs) := by
    rw [Bool.eq_iff_iff]
    simp
  have q := notin_lst S xs a
  rw [e] at q
  have g : (natD xs).length + 1 ≤ 16777216 := by rw [natD_len]; omega
  have g0 : (natD xs).length ≤ 16777216 := by rw [natD_len]; omega
  by_cases ha : a ∈ xs
  · simp [lb__law_reached_1, sSet, eLV, lCat, eV, lLc, iSeq, eC, aC, aN, wipeD, lcI, Tg.asg, tVB, Z.e2, q, tru, ha, gCat, lstH, g0, R.safe]
  · have e2 : natD xs ++ [.int (a : Nat)] = natD (xs ++ [a]) := by simp [natD]
    simp [lb__law_reached_1, sSet, eLV, lCat, eV, lLc, iSeq, eC, aC, aN, wipeD, lcI, Tg.asg, tVB, Z.e2, q, tru, ha, gCat, lstH, g, R.safe, e2]
theorem lot_at (h1 : s < n) (h2 : i < m) (h3 : v < (k i).1) : ∃ r, (tabD n m k f)[s]? = some (.tup r) ∧ ∃ u, r[i]? = some (.tup u) ∧ u[v]? = some (lotD (f s i v)) := by
  refine ⟨_, tabD_at h1, valsD k f s i, ?_, vals_at s i v h3⟩
  simp [h2]
theorem lr_2 (o : Okk n m k f) (C st a7 a8 a9 : Option D) (xs : List Nat) (at' s i v : Nat) (hF : Fo n xs) (hx : xs[at']? = some s) (hs : s < n) (hi : i < m) (hv : v < (k i).1) : ∃ b7 b8 b9, lb__law_reached_2 c [some (.tup (tabD n m k f)), C, st, some (.lst (natD xs)), some (.int (at' : Nat)), some (.int (i : Nat)), some (.int (v : Nat)), a7, a8, a9] S = .nx [some (.tup (tabD n m k f)), C, st, some (.lst (natD (add xs (aft (f s i v))))), some (.int (at' : Nat)), some (.int (i : Nat)), some (.int (v : Nat)), b7, b8, b9] S := by
  have hL := o.fo s i v hs hi hv
  obtain ⟨r, g1, u, g2, g3⟩ := lot_at (f := f) hs hi hv
  have hn := o.n2
  have lc : ∀ a1 a2 a3 a4 a5 a6 a7 a9, lcI (.nm 8) (fun _ => True) tYes (Z.e2 fIx (eV 8) (eC (.int 1))) [some (.tup (tabD n m k f)), a1, a2, a3, a4, a5, a6, a7, none, a9] ((f s i v).map pD) S = .ok ((f s i v).map fun p => .int (p.2 : Nat)) S := fun a1 a2 a3 a4 a5 a6 a7 a9 => by
    rw [lcI_map (fun d => match d with
      | .tup [_, b] => b
      | d => d) trivial _ fun d hd => ?_]
    · rw [List.map_map]
      congr 1
    · obtain ⟨p, _, rfl⟩ := List.mem_map.mp hd
      exact ⟨_, asg_nm .., by simp [Z.e2, eV, eC, fIx, pD, atI_1]⟩
  have hu2 : ((f s i v).map pD).length ≤ 16777216 := by
    rcases hL with ⟨p, h1, _⟩ | ⟨p, q, h1, _⟩ <;> rw [h1] <;> simp
  have ix : ∀ a7 a9, (Z.e2 fIx (Z.e2 fIx (Z.e2 fIx (eV 0) (Z.e2 fIx (eV 3) (eV 4))) (eV 5)) (eV 6)) [some (.tup (tabD n m k f)), C, st, some (.lst (natD xs)), some (.int (at' : Nat)), some (.int (i : Nat)), some (.int (v : Nat)), a7, a8, a9] S = .ok (lotD (f s i v)) S := fun a7 a9 => by
    simp [Z.e2, eV, fIx, atI_nat, natD_get hx, g1, g2, g3]
  have so : (lSortSet (aC (eLV (lLc (.nm 8) (iSeq (Z.e2 fIx (Z.e2 fIx (Z.e2 fIx (eV 0) (Z.e2 fIx (eV 3) (eV 4))) (eV 5)) (eV 6))) tYes (Z.e2 fIx (eV 8) (eC (.int 1))) [8])) aN)) [some (.tup (tabD n m k f)), C, st, some (.lst (natD xs)), some (.int (at' : Nat)), some (.int (i : Nat)), some (.int (v : Nat)), a7, a8, a9] S = .ok (natD (aft (f s i v))) S := by
    obtain ⟨U, hU⟩ : ∃ U, U = (f s i v).map pD := ⟨_, rfl⟩
    rw [← hU] at lc hu2
    unfold lotD at ix
    rw [← hU] at ix
    simp [lSortSet, aC, aN, eLV, lLc, iSeq, ix, hu2, wipeD, lc, uset_aft S hL]
  obtain ⟨ρ', S', h1, rfl, hF', b7, b8, b9, rfl⟩ := forI_fold (tg := .nm 7) (chk := fun _ => True) (b := lb__law_reached_1 c) (fun a : Nat => D.int (a : Nat)) (fun ys ρ S' => S' = S ∧ Fo n ys ∧ ∃ b7 b8 b9, ρ = [some (.tup (tabD n m k f)), C, st, some (.lst (natD ys)), some (.int (at' : Nat)), some (.int (i : Nat)), some (.int (v : Nat)), b7, b8, b9]) (fun xs a => if a ∈ xs then xs else xs ++ [a]) (aft (f s i v)) xs _ S ⟨rfl, hF, a7, a8, a9, rfl⟩ fun a ha ys ρ S' hP => by
    obtain ⟨rfl, hF', b7, b8, b9, rfl⟩ := hP
    have q := lr_1 c S' (some (.tup (tabD n m k f))) C st (some (.int (at' : Nat))) (some (.int (i : Nat))) (some (.int (v : Nat))) b8 b9 ys (by have := nodup_len n ys hF'; omega) a
    refine ⟨_, asg_nm .., _, _, .inl (by simpa using q), trivial, rfl, ?_, some (.int (a : Nat)), b8, b9, rfl⟩
    have := (fo_add [a] ys hF' (fun b hb => by
      simp at hb
      subst hb
      exact aft_lt hL _ ha)).1
    simpa [add] using this
  refine ⟨b7, b8, b9, ?_⟩
  unfold lb__law_reached_2
  rw [for_nx (ds := natD (aft (f s i v))) (chk := fun _ => True) (S1 := S') (iseq_lv so)]
  exact h1
theorem fo_keep (o : Okk n m k f) {s i v at' : Nat} {ys : List Nat} (hs : s < n) (hi : i < m) (hv : v < (k i).1) (hF : Fo n ys) (hx : ys[at']? = some s) : Fo n (add ys (aft (f s i v))) ∧ (add ys (aft (f s i v)))[at']? = some s := by
  obtain ⟨q1, q2, q3⟩ := fo_add (aft (f s i v)) ys hF (aft_lt (o.fo s i v hs hi hv))
  refine ⟨q1, ?_⟩
  rw [q3, List.getElem?_append_left (get_lt hx)]
  exact hx
theorem lr_3 (o : Okk n m k f) (st a6 a7 a8 a9 : Option D) (xs : List Nat) (at' s i : Nat) (hF : Fo n xs) (hx : xs[at']? = some s) (hs : s < n) (hi : i < m) : ∃ ys b6 b7 b8 b9, ys = (List.range (k i).1).foldl (fun xs v => add xs (aft (f s i v))) xs ∧ Fo n ys ∧ ys[at']? = some s ∧ lb__law_reached_3 c [some (.tup (tabD n m k f)), some (.tup (callsD m k)), st, some (.lst (natD xs)), some (.int (at' : Nat)), some (.int (i : Nat)), a6, a7, a8, a9] S = .nx [some (.tup (tabD n m k f)), some (.tup (callsD m k)), st, some (.lst (natD ys)), some (.int (at' : Nat)), some (.int (i : Nat)), b6, b7, b8, b9] S := by
  obtain ⟨ρ', S', h1, hS, hF', hx', b6, b7, b8, b9, hρ⟩ := forI_fold (tg := .nm 6) (chk := fun _ => True) (b := lb__law_reached_2 c) (fun v : Nat => D.int (v : Nat)) (fun ys ρ S' => S' = S ∧ Fo n ys ∧ ys[at']? = some s ∧ ∃ b6 b7 b8 b9, ρ = [some (.tup (tabD n m k f)), some (.tup (callsD m k)), st, some (.lst (natD ys)), some (.int (at' : Nat)), some (.int (i : Nat)), b6, b7, b8, b9]) (fun xs v => add xs (aft (f s i v))) (List.range (k i).1) xs _ S ⟨rfl, hF, hx, a6, a7, a8, a9, rfl⟩ fun v hv ys ρ S' hP => by
    obtain ⟨rfl, hF', hx', b6, b7, b8, b9, rfl⟩ := hP
    have hv := List.mem_range.mp hv
    obtain ⟨d7, d8, d9, q⟩ := lr_2 c S' o (some (.tup (callsD m k))) st b7 b8 b9 ys at' s i v hF' hx' hs hi hv
    obtain ⟨q1, q2⟩ := fo_keep o hs hi hv hF' hx'
    exact ⟨_, asg_nm .., _, _, .inl (by simpa using q), trivial, rfl, q1, q2, some (.int (v : Nat)), d7, d8, d9, rfl⟩
  rw [hS, hρ] at h1
  refine ⟨_, b6, b7, b8, b9, rfl, hF', hx', ?_⟩
  have hk := o.k1 i hi
  rw [← iRow_map0] at h1
  unfold lb__law_reached_3
  rw [for_nx (iR1_nat (S' := S) (n := (k i).1) (by simp [Z.e2, eV, eC, fIx, atI_nat, atI_0, callsD_at hi]) (by omega))]
  exact h1
theorem lr_4 (o : Okk n m k f) (st a5 a6 a7 a8 a9 : Option D) (xs : List Nat) (at' s : Nat) (hF : Fo n xs) (hx : xs[at']? = some s) (hs : s < n) : ∃ b5 b6 b7 b8 b9, Fo n (stepN m k f s xs) ∧ lb__law_reached_4 c [some (.tup (tabD n m k f)), some (.tup (callsD m k)), st, some (.lst (natD xs)), some (.int (at' : Nat)), a5, a6, a7, a8, a9] S = .nx [some (.tup (tabD n m k f)), some (.tup (callsD m k)), st, some (.lst (natD (stepN m k f s xs))), some (.int ((at' + 1 : Nat) : Int)), b5, b6, b7, b8, b9] S := by
  obtain ⟨ρ', S', h1, hS, hF', hx', b5, b6, b7, b8, b9, hρ⟩ := forI_fold (tg := .nm 5) (chk := fun _ => True) (b := lb__law_reached_3 c) (fun v : Nat => D.int (v : Nat)) (fun ys ρ S' => S' = S ∧ Fo n ys ∧ ys[at']? = some s ∧ ∃ b5 b6 b7 b8 b9, ρ = [some (.tup (tabD n m k f)), some (.tup (callsD m k)), st, some (.lst (natD ys)), some (.int (at' : Nat)), b5, b6, b7, b8, b9]) (fun xs i => (List.range (k i).1).foldl (fun xs v => add xs (aft (f s i v))) xs) (List.range m) xs _ S ⟨rfl, hF, hx, a5, a6, a7, a8, a9, rfl⟩ fun i hi ys ρ S' hP => by
    obtain ⟨rfl, hF', hx', b5, b6, b7, b8, b9, rfl⟩ := hP
    have hi := List.mem_range.mp hi
    obtain ⟨zs, d6, d7, d8, d9, rfl, q1, q2, q⟩ := lr_3 c S' o st b6 b7 b8 b9 ys at' s i hF' hx' hs hi
    exact ⟨_, asg_nm .., _, _, .inl (by simpa using q), trivial, rfl, q1, q2, some (.int (i : Nat)), d6, d7, d8, d9, rfl⟩
  have e : stepN m k f s xs = (List.range m).foldl (fun xs i => (List.range (k i).1).foldl (fun xs v => add xs (aft (f s i v))) xs) xs := by
    unfold stepN cvN
    rw [List.foldl_flatMap]
    congr 1
    funext ys i
    rw [List.foldl_map]
  rw [← e] at hF' hρ
  rw [hS, hρ] at h1
  refine ⟨b5, b6, b7, b8, b9, hF', ?_⟩
  have hm := o.m2
  rw [← iRow_map0] at h1
  unfold lb__law_reached_4
  have h2 : sFor (.nm 5) (iR1 (eCall fLen (aC (eV 1) aN))) (lb__law_reached_3 c) [some (.tup (tabD n m k f)), some (.tup (callsD m k)), st, some (.lst (natD xs)), some (.int (at' : Nat)), a5, a6, a7, a8, a9] S = .nx [some (.tup (tabD n m k f)), some (.tup (callsD m k)), st, some (.lst (natD (stepN m k f s xs))), some (.int (at' : Nat)), b5, b6, b7, b8, b9] S := by
    rw [for_nx (iR1_nat (S' := S) (n := m) (by simp [eCall, aC, aN, eV, fLen, seqOf, callsD_len]) (by omega))]
    exact h1
  rw [seq_nx h2]
  simp [sAug, eC]
theorem lr_w (o : Okk n m k f) (st : Option D) : ∀ (q : Nat) (xs : List Nat) (at' : Nat) (a5 a6 a7 a8 a9 : Option D), Fo n xs → n + 1 ≤ q + at' → at' ≤ xs.length → ∃ b4 b5 b6 b7 b8 b9, whileI (lb__law_reached_5 c) (lb__law_reached_4 c) q [some (.tup (tabD n m k f)), some (.tup (callsD m k)), st, some (.lst (natD xs)), some (.int (at' : Nat)), a5, a6, a7, a8, a9] S = .nx [some (.tup (tabD n m k f)), some (.tup (callsD m k)), st, some (.lst (natD (reachN m k f q xs at'))), b4, b5, b6, b7, b8, b9] S
  | 0, xs, at', a5, a6, a7, a8, a9, hF, h1, h2 => by
    have := nodup_len n xs hF
    omega
  | q + 1, xs, at', a5, a6, a7, a8, a9, hF, h1, h2 => by
    have ht : lb__law_reached_5 c [some (.tup (tabD n m k f)), some (.tup (callsD m k)), st, some (.lst (natD xs)), some (.int (at' : Nat)), a5, a6, a7, a8, a9] S = .ok (decide (at' < xs.length)) S := by
      have e : decide ((at' : Int) < (xs.length : Int)) = decide (at' < xs.length) := decide_eq_decide.mpr (by omega)
      simp [lb__law_reached_5, tVB, Z.e2, eV, eCall, aC, aN, fLen, seqOf, natD_len, fLt_ii, tru, e]
    by_cases g : at' < xs.length
    · obtain ⟨s, hx⟩ := get_of g
      have hs := hF.2 s (List.mem_of_getElem? hx)
      obtain ⟨b5, b6, b7, b8, b9, f1, hb⟩ := lr_4 c S o st a5 a6 a7 a8 a9 xs at' s hF hx hs
      obtain ⟨_, r, f2⟩ := fo_step o hs (cvN m k) xs (fun p hp => hp) hF
      have f2' : stepN m k f s xs = xs ++ r := f2
      obtain ⟨c4, c5, c6, c7, c8, c9, hw⟩ := lr_w o st q (stepN m k f s xs) (at' + 1) b5 b6 b7 b8 b9 f1 (by omega) (by rw [f2', List.length_append]; omega)
      refine ⟨c4, c5, c6, c7, c8, c9, ?_⟩
      have e : reachN m k f (q + 1) xs at' = reachN m k f q (stepN m k f s xs) (at' + 1) := by simp [reachN, hx]
      rw [e]
      simp only [decide_eq_true g] at ht
      simp only [whileI, ht, R.to_ok, if_true, hb]
      exact hw
    · have e : reachN m k f (q + 1) xs at' = xs := by simp [reachN, List.getElem?_eq_none (show xs.length ≤ at' by omega)]
      refine ⟨some (.int (at' : Nat)), a5, a6, a7, a8, a9, ?_⟩
      rw [e]
      simp only [decide_eq_false g] at ht
      simp [whileI, ht]
theorem lreached_i (o : Okk n m k f) {s : Nat} (hs : s < n) (hn : n ≤ 7) : F__law_reached c [.tup (tabD n m k f), .tup (callsD m k), .int s] S = .ok (.tup (natD (reachN m k f 8 [s] 0))) S := by
  obtain ⟨b4, b5, b6, b7, b8, b9, hw⟩ := lr_w c S o (some (.int (s : Nat))) 8 [s] 0 none none none none none ⟨by simp, by simpa using hs⟩ (by omega) (by simp)
  have e0 : natD [s] = [.int (s : Nat)] := rfl
  rw [e0] at hw
  show runB 10 (den__law_reached c) [.tup (tabD n m k f), .tup (callsD m k), .int s] S = _
  refine run_rt ?_
  unfold den__law_reached
  show sSeq _ _ [some (.tup (tabD n m k f)), some (.tup (callsD m k)), some (.int (s : Nat)), none, none, none, none, none, none, none] S = _
  have a0 : sAsg (.tp [(.nm 3), (.nm 4)]) (eTup (aC (eLV (aC (eV 2) aN)) (aC (eC (.int 0)) aN))) [some (.tup (tabD n m k f)), some (.tup (callsD m k)), some (.int (s : Nat)), none, none, none, none, none, none, none] S = .nx [some (.tup (tabD n m k f)), some (.tup (callsD m k)), some (.int (s : Nat)), some (.lst [.int (s : Nat)]), some (.int ((0 : Nat) : Int)), none, none, none, none, none] S := by
    simp [sAsg, eTup, aC, aN, eLV, eV, eC, Tg.asg, Tg.asgs, seqOf]
  rw [seq_nx a0, seq_nx hw]
  simp [sRet, eCall, aC, aN, eV, fTuple, seqOf]
end
end Z.k01
namespace Z.k01
open PySem L2 Z
variable (c : Ad)
/-! ### the store of the drawing -/
theorem hp_len {T S : Sto} (h : Hp2 T S) : S.length = T.length + 2 := by
  obtain ⟨xs, st, _, rfl⟩ := h
  simp
theorem hp_get {T0 G S : Sto} {x : O} (h : Hp2 (T0 ++ x :: G) S) : S[T0.length + 2]? = some x := by
  obtain ⟨xs, st, _, rfl⟩ := h
  simp
theorem hp_at {T S : Sto} {i : Nat} {x : O} (h : Hp2 T S) (hx : T[i]? = some x) : S[i + 2]? = some x := by
  obtain ⟨xs, st, _, rfl⟩ := h
  simpa using hx
theorem hp_set {T0 G S : Sto} {x : O} (h : Hp2 (T0 ++ x :: G) S) (y : O) : Hp2 (T0 ++ y :: G) (S.set (T0.length + 2) y) := by
  obtain ⟨xs, st, hl, rfl⟩ := h
  exact ⟨xs, st, hl, by simp⟩
theorem hp_push {T S : Sto} (h : Hp2 T S) (y : Sto) : Hp2 (T ++ y) (S ++ y) := by
  obtain ⟨xs, st, hl, rfl⟩ := h
  exact ⟨xs, st, hl, by simp⟩
theorem pick_l (T : Sto) (ds : List D) (h0 : 0 < ds.length) (h1 : ds.length ≤ 1000000) (S : Sto) (hS : Hp2 T S) : ∃ (r : Nat) (S' : Sto) (d : D), ds[r]? = some d ∧ F__law_pick c [.ref 1, .lst ds] S = .ok d S' ∧ Hp2 T S' := by
  obtain ⟨r, S', hr, h2, h3⟩ := draw_i c T ds.length h0 h1 S hS
  refine ⟨r, S', ds[r], by simp [hr], ?_, h3⟩
  have e : L2.atI ds ((r : Nat) : Int) = some ds[r] := by
    rw [atI_nat]
    simp [hr]
  simp [F__law_pick, den__law_pick, dl__law_draw, h2, e, runB, env0, sSeq, sRet, sRetN, sIf, sSet, sDrop, sNx, sPar, sAsg, sAttr, sPut, sRaise, Tg.asg, Tg.asgs, eAnd, eOr, eNot, eIf, tAnd, tOr, tNot, tV, tVB, tYes, eCall, eFn, eMk, eMt, eFld, eBM, aC, aN, eV, eC, Z.e1, Z.e2, eTup, eLV, eLN, eChain, eSl, fIsi, tyD, isK, anyK, tNames, rB, tru, fLen, fTuple, fAbs, fInt, fAll, fAny, fIsN, fNotN, fIsB, fNotB, fNeg, seqOf, lstOf, isL, fLt_ii, fLe_ii, fGt_ii, fGe_ii, fSub_ii, fPlus, fMod_ii, fMul_ii, fDiv_ii, fEq, fNe, eqD_int, fIx, atI_0, atI_1, atI_2, lLc, lLc2, iSeq, iCall, fEnum, fZip, wipeD, putD, lSl, lRev, R.to_ok, R.bind_ok]
/-! ### lots -/
theorem key_pD (p : Nat × Nat) : keyT (pD p) = (p.1 : Int) * 1024 + p.2 := by simp [keyT, pD, intsD, TS.code]
theorem usort_lot {b n : Nat} (hb : b ≤ 1000) (hn : n ≤ 1000) {ps : List (Nat × Nat)} (h : (∃ p, ps = [p] ∧ In b n p) ∨ ∃ p q, ps = [p, q] ∧ In b n p ∧ In b n q) {S : Sto} {q : Nat} (hq : S[q]? = some (.lst (ps.map pD))) : ∃ lot, LotOk b n lot ∧ gSortSet S [.ref q] = .ok (lot.map pD) S := by
  rcases h with ⟨p, rfl, h⟩ | ⟨p, r, rfl, h1, h2⟩
  · have i1 := h.a
    have i2 := h.b
    refine ⟨[p], .inl ⟨p, rfl, h⟩, ?_⟩
    have b1 : (p.1 : Int) < 1024 := by omega
    have b2 : (p.2 : Int) < 1024 := by omega
    have hq' : S[q]? = some (.lst [.tup [.int (p.1 : Nat), .int (p.2 : Nat)]]) := hq
    simp [gSortSet, lstOf, hq', intsD, tupsB, tupI, bdB, lenT, usortK, insU, pD, b1, b2]
  · have i1 := h1.a
    have i2 := h1.b
    have i3 := h2.a
    have i4 := h2.b
    have b1 : (p.1 : Int) < 1024 := by omega
    have b2 : (p.2 : Int) < 1024 := by omega
    have b3 : (r.1 : Int) < 1024 := by omega
    have b4 : (r.2 : Int) < 1024 := by omega
    have hq' : S[q]? = some (.lst [.tup [.int (p.1 : Nat), .int (p.2 : Nat)], .tup [.int (r.1 : Nat), .int (r.2 : Nat)]]) := hq
    have e : gSortSet S [.ref q] = .ok (usortK keyT [pD p, pD r]) S := by
      simp [gSortSet, lstOf, hq', intsD, tupsB, tupI, bdB, lenT, pD, b1, b2, b3, b4]
    rw [e]
    have e2 : usortK keyT [pD p, pD r] = if keyT (pD p) < keyT (pD r) then [pD p, pD r] else if keyT (pD p) = keyT (pD r) then [pD r] else [pD r, pD p] := rfl
    rw [e2, key_pD, key_pD]
    by_cases g1 : (p.1 : Int) * 1024 + p.2 < (r.1 : Int) * 1024 + r.2
    · rw [if_pos g1]
      exact ⟨[p, r], .inr ⟨p, r, rfl, h1, h2, by unfold ltP; omega⟩, rfl⟩
    · rw [if_neg g1]
      by_cases g2 : (p.1 : Int) * 1024 + p.2 = (r.1 : Int) * 1024 + r.2
      · rw [if_pos g2]
        exact ⟨[r], .inl ⟨r, rfl, h2⟩, rfl⟩
      · rw [if_neg g2]
        exact ⟨[r, p], .inr ⟨r, p, rfl, h2, h1, by unfold ltP; omega⟩, rfl⟩
theorem lotD_tup (l : List (Nat × Nat)) : D.tup (l.map pD) = lotD l := rfl
theorem sp_mid (B G H : Sto) (x : O) : (B ++ x :: G) ++ H = B ++ x :: (G ++ H) := by simp
/-- one lot drawn -/
theorem th_2 {B G : Sto} {S : Sto} {vs : List (List (Nat × Nat))} {n b : Nat} (hn : 0 < n) (hn2 : n ≤ 1000) (hb : 0 < b) (hb2 : b ≤ 1000) (sure : Bool) (hv : vs.length ≤ 100) (a3 a4 a5 a6 a7 a8 a11 a12 : Option D) (hS : Hp2 (B ++ .lst (vs.map lotD) :: G) S) :
    ∃ lot G' S' b12, LotOk b n lot ∧ lb__law_thing_2 c [some (.ref 1), some (.bl sure), some (.int n), a3, a4, a5, a6, a7, a8, some (.int b), some (.ref (B.length + 2)), a11, a12] S = .nx [some (.ref 1), some (.bl sure), some (.int n), a3, a4, a5, a6, a7, a8, some (.int b), some (.ref (B.length + 2)), a11, b12] S' ∧ Hp2 (B ++ .lst ((vs ++ [lot]).map lotD) :: G') S' := by
  obtain ⟨x, S1, hx, e1, h1⟩ := draw_i c _ b hb (by omega) S hS
  obtain ⟨y, S2, hy, e2, h2⟩ := draw_i c _ n hn (by omega) S1 h1
  have h3 := hp_push h2 [.lst [pD (x, y)]]
  have l2 := hp_len h2
  have s1 : sSet 12 (eLN (aC (eTup (aC (eFn 2 (F__law_draw c) (dl__law_draw.drop 0) (aC (eV 0) (aC (eV 9) aN))) (aC (eFn 2 (F__law_draw c) (dl__law_draw.drop 0) (aC (eV 0) (aC (eV 2) aN))) aN))) aN)) [some (.ref 1), some (.bl sure), some (.int n), a3, a4, a5, a6, a7, a8, some (.int b), some (.ref (B.length + 2)), a11, a12] S = .nx [some (.ref 1), some (.bl sure), some (.int n), a3, a4, a5, a6, a7, a8, some (.int b), some (.ref (B.length + 2)), a11, some (.ref S2.length)] (S2 ++ [.lst [pD (x, y)]]) := by
    simp [sSet, eLN, eTup, aC, aN, eFn, eV, dl__law_draw, e1, e2, pD]
  have main : ∃ ps S4, ((∃ p, ps = [p] ∧ In b n p) ∨ ∃ p q, ps = [p, q] ∧ In b n p ∧ In b n q) ∧ sIf (tAnd (tNot (tV (eV 1))) (tVB (Z.e2 fEq (eFn 2 (F__law_draw c) (dl__law_draw.drop 0) (aC (eV 0) (aC (eC (.int 4)) aN))) (eC (.int 0))))) (sDrop (eBM fApp (eV 12) (aC (eTup (aC (eFn 2 (F__law_draw c) (dl__law_draw.drop 0) (aC (eV 0) (aC (eV 9) aN))) (aC (eFn 2 (F__law_draw c) (dl__law_draw.drop 0) (aC (eV 0) (aC (eV 2) aN))) aN))) aN))) sNx [some (.ref 1), some (.bl sure), some (.int n), a3, a4, a5, a6, a7, a8, some (.int b), some (.ref (B.length + 2)), a11, some (.ref S2.length)] (S2 ++ [.lst [pD (x, y)]]) = .nx [some (.ref 1), some (.bl sure), some (.int n), a3, a4, a5, a6, a7, a8, some (.int b), some (.ref (B.length + 2)), a11, some (.ref S2.length)] S4 ∧ Hp2 ((B ++ .lst (vs.map lotD) :: G) ++ [.lst (ps.map pD)]) S4 := by
    cases sure with
    | true =>
      refine ⟨[(x, y)], _, .inl ⟨_, rfl, hx, hy⟩, ?_, h3⟩
      simp [sIf, tAnd, tNot, tV, eV, tru, sNx]
    | false =>
      obtain ⟨z, S3, hz, e3, h4⟩ := draw_i c _ 4 (by omega) (by omega) _ h3
      have e3' : F__law_draw c [.ref 1, .int 4] (S2 ++ [.lst [pD (x, y)]]) = .ok (.int (z : Nat)) S3 := e3
      have t1 : tAnd (tNot (tV (eV 1))) (tVB (Z.e2 fEq (eFn 2 (F__law_draw c) (dl__law_draw.drop 0) (aC (eV 0) (aC (eC (.int 4)) aN))) (eC (.int 0)))) [some (.ref 1), some (.bl false), some (.int n), a3, a4, a5, a6, a7, a8, some (.int b), some (.ref (B.length + 2)), a11, some (.ref S2.length)] (S2 ++ [.lst [pD (x, y)]]) = .ok (decide (z = 0)) S3 := by
        have e : decide ((z : Int) = 0) = decide (z = 0) := decide_eq_decide.mpr (by omega)
        simp [tAnd, tNot, tV, tVB, Z.e2, eFn, aC, aN, eV, eC, dl__law_draw, e3', fEq, rB, eqD_int, tru, e]
      by_cases g : z = 0
      · rw [decide_eq_true g] at t1
        rw [if_t t1]
        obtain ⟨x', S5, hx', e5, h5⟩ := draw_i c _ b hb (by omega) S3 h4
        obtain ⟨y', S6, hy', e6, h6⟩ := draw_i c _ n hn (by omega) S5 h5
        have q3 : S3[S2.length]? = some (.lst [pD (x, y)]) := by
          rw [l2]
          exact hp_get (G := []) h4
        have q6 : S6[S2.length]? = some (.lst [pD (x, y)]) := by
          rw [l2]
          exact hp_get (G := []) h6
        refine ⟨[(x, y), (x', y')], _, .inr ⟨_, _, rfl, ⟨hx, hy⟩, hx', hy'⟩, drop_app (S1 := S6) (x := pD (x', y')) (by simp [eV]) q3 ?_ q6 (by simp), ?_⟩
        · simp [eTup, aC, aN, eFn, eV, dl__law_draw, e5, e6, pD]
        · rw [l2]
          exact hp_set (G := []) h6 _
      · rw [decide_eq_false g] at t1
        rw [if_f t1]
        exact ⟨[(x, y)], S3, .inl ⟨_, rfl, hx, hy⟩, rfl, h4⟩
  obtain ⟨ps, S4, hps, s2, h4⟩ := main
  have q4 : S4[S2.length]? = some (.lst (ps.map pD)) := by
    rw [l2]
    exact hp_get (G := []) h4
  obtain ⟨lot, hlot, so⟩ := usort_lot hb2 hn2 hps q4
  rw [sp_mid] at h4
  have q5 : S4[B.length + 2]? = some (.lst (vs.map lotD)) := hp_get h4
  refine ⟨lot, _, _, some (.ref S2.length), hlot, ?_, by
    have := hp_set h4 (.lst ((vs ++ [lot]).map lotD))
    exact this⟩
  unfold lb__law_thing_2
  rw [seq_nx s1, seq_nx s2]
  rw [drop_app (S1 := S4) (x := lotD lot) (q := B.length + 2) (by simp [eV]) q5 (by simp [eCall, aC, aN, eLV, lSortSet, eV, so, fTuple, seqOf, lotD]) q5 (by rw [List.length_map]; omega)]
  rw [List.map_append]
  rfl
end Z.k01
namespace Z.k01
open PySem L2 Z
variable (c : Ad)
abbrev Lots := List (List (Nat × Nat))
def valD (u : Lots) : D := .tup (u.map lotD)
def rwD (rs : List Lots) : D := .tup (rs.map valD)
/-- one call's lots drawn -/
theorem th_3 {B G : Sto} {S : Sto} {row : List D} {n a b : Nat} (hn : 0 < n) (hn2 : n ≤ 1000) (ha : a ≤ 100) (hb : 0 < b) (hb2 : b ≤ 1000) (sure : Bool) (hv : row.length ≤ 100) (a3 a4 a5 a6 a10 a11 a12 : Option D) (hS : Hp2 (B ++ .lst row :: G) S) :
    ∃ (u : Lots) (G' S' : Sto) (b10 b11 b12 : Option D), u.length = a ∧ (∀ l ∈ u, LotOk b n l) ∧ lb__law_thing_3 c [some (.ref 1), some (.bl sure), some (.int n), a3, a4, a5, a6, some (.ref (B.length + 2)), some (.int a), some (.int b), a10, a11, a12] S = .nx [some (.ref 1), some (.bl sure), some (.int n), a3, a4, a5, a6, some (.ref (B.length + 2)), some (.int a), some (.int b), b10, b11, b12] S' ∧ Hp2 (B ++ .lst (row ++ [valD u]) :: G') S' := by
  have l0 := hp_len hS
  have h1 := hp_push hS [.lst []]
  have s1 : sSet 10 (eLN aN) [some (.ref 1), some (.bl sure), some (.int n), a3, a4, a5, a6, some (.ref (B.length + 2)), some (.int a), some (.int b), a10, a11, a12] S = .nx [some (.ref 1), some (.bl sure), some (.int n), a3, a4, a5, a6, some (.ref (B.length + 2)), some (.int a), some (.int b), some (.ref S.length), a11, a12] (S ++ [.lst []]) := by
    simp [sSet, eLN, aN]
  obtain ⟨ρ', S', e1, u, hu, hl, b11, b12, G', rfl, hS'⟩ := forI_idx (tg := .nm 11) (chk := fun _ => True) (b := lb__law_thing_2 c) (fun j ρ S' => ∃ u : Lots, u.length = j ∧ (∀ l ∈ u, LotOk b n l) ∧ ∃ b11 b12 G', ρ = [some (.ref 1), some (.bl sure), some (.int n), a3, a4, a5, a6, some (.ref (B.length + 2)), some (.int a), some (.int b), some (.ref S.length), b11, b12] ∧ Hp2 ((B ++ .lst row :: G) ++ .lst (u.map lotD) :: G') S') (iRow 0 a) [some (.ref 1), some (.bl sure), some (.int n), a3, a4, a5, a6, some (.ref (B.length + 2)), some (.int a), some (.int b), some (.ref S.length), a11, a12] (S ++ [.lst []]) ⟨[], rfl, fun l hl => absurd hl (by simp), a11, a12, [], rfl, h1⟩ fun i d hd ρ S1 hP => by
    obtain ⟨u, hu, hl, b11, b12, G', rfl, hS1⟩ := hP
    have hi : i < a := by
      have := get_lt hd
      rwa [iRow_len] at this
    obtain ⟨lot, G2, S2, c12, q1, q2, q3⟩ := th_2 c hn hn2 hb hb2 sure (by omega) a3 a4 a5 a6 (some (.ref (B.length + 2))) (some (.int a)) (some d) b12 hS1
    rw [l0]
    rw [l0] at *
    refine ⟨_, asg_nm .., _, _, .inl (by simpa using q2), trivial, u ++ [lot], by simp [hu], ?_, some d, c12, G2, rfl, q3⟩
    intro l hl'
    rcases List.mem_append.mp hl' with h | h
    · exact hl l h
    · simp at h
      subst h
      exact q1
  rw [iRow_len] at hu
  have s2 : sFor (.nm 11) (iR1 (eV 8)) (lb__law_thing_2 c) [some (.ref 1), some (.bl sure), some (.int n), a3, a4, a5, a6, some (.ref (B.length + 2)), some (.int a), some (.int b), some (.ref S.length), a11, a12] (S ++ [.lst []]) = .nx [some (.ref 1), some (.bl sure), some (.int n), a3, a4, a5, a6, some (.ref (B.length + 2)), some (.int a), some (.int b), some (.ref S.length), b11, b12] S' := by
    rw [for_nx (iR1_nat (S' := S ++ [.lst []]) (n := a) (by simp [eV]) (by omega))]
    exact e1
  have q1 : S'[S.length]? = some (.lst (u.map lotD)) := by
    rw [l0]
    exact hp_get hS'
  rw [sp_mid] at hS'
  have q2 : S'[B.length + 2]? = some (.lst row) := hp_get hS'
  refine ⟨u, _, _, some (.ref S.length), b11, b12, hu, hl, ?_, hp_set hS' _⟩
  unfold lb__law_thing_3
  rw [seq_nx s1, seq_nx s2]
  exact drop_app (S1 := S') (x := valD u) (q := B.length + 2) (by simp [eV]) q2 (by simp [eCall, aC, aN, eV, fTuple, seqOf, q1, valD]) q2 (by omega)
def RowFit (cs : List (Nat × Nat)) (n : Nat) (rs : List Lots) : Prop := ∀ (i : Nat) u p, rs[i]? = some u → cs[i]? = some p → u.length = p.1 ∧ ∀ l ∈ u, LotOk p.2 n l
def CsOk (cs : List (Nat × Nat)) : Prop := cs.length ≤ 3 ∧ ∀ p ∈ cs, 1 ≤ p.1 ∧ p.1 ≤ 3 ∧ 1 ≤ p.2 ∧ p.2 ≤ 3
/-- one state's row drawn -/
theorem th_4 {T G : Sto} {S : Sto} {cs : List (Nat × Nat)} {tab : List D} {n : Nat} (hn : 0 < n) (hn2 : n ≤ 1000) (hc : CsOk cs) (sure : Bool) (hv : tab.length ≤ 100) (a4 a6 a7 a8 a9 a10 a11 a12 : Option D) (hS : Hp2 (T ++ .lst (cs.map pD) :: .lst tab :: G) S) :
    ∃ (rs : List Lots) (G' S' : Sto) (b7 b8 b9 b10 b11 b12 : Option D), rs.length = cs.length ∧ RowFit cs n rs ∧ lb__law_thing_4 c [some (.ref 1), some (.bl sure), some (.int n), some (.ref (T.length + 2)), a4, some (.ref (T.length + 3)), a6, a7, a8, a9, a10, a11, a12] S = .nx [some (.ref 1), some (.bl sure), some (.int n), some (.ref (T.length + 2)), a4, some (.ref (T.length + 3)), a6, b7, b8, b9, b10, b11, b12] S' ∧ Hp2 (T ++ .lst (cs.map pD) :: .lst (tab ++ [rwD rs]) :: G') S' := by
  have l0 := hp_len hS
  obtain ⟨B, hB⟩ : ∃ B, B = T ++ .lst (cs.map pD) :: .lst tab :: G := ⟨_, rfl⟩
  rw [← hB] at hS l0
  have h1 := hp_push hS [.lst []]
  have s1 : sSet 7 (eLN aN) [some (.ref 1), some (.bl sure), some (.int n), some (.ref (T.length + 2)), a4, some (.ref (T.length + 3)), a6, a7, a8, a9, a10, a11, a12] S = .nx [some (.ref 1), some (.bl sure), some (.int n), some (.ref (T.length + 2)), a4, some (.ref (T.length + 3)), a6, some (.ref (B.length + 2)), a8, a9, a10, a11, a12] (S ++ [.lst []]) := by
    simp [sSet, eLN, aN, l0]
  have gC : ∀ {H S1 : Sto}, Hp2 (B ++ H) S1 → S1[T.length + 2]? = some (.lst (cs.map pD)) := fun {H S1} h => hp_at h (by rw [hB]; simp)
  obtain ⟨ρ', S', e1, rs, hr, hf, b8, b9, b10, b11, b12, G', rfl, hS'⟩ := forI_idx (tg := .tp [(.nm 8), (.nm 9)]) (chk := fun S' => S'[T.length + 2]? = some (.lst (cs.map pD))) (b := lb__law_thing_3 c) (fun j ρ S' => ∃ rs : List Lots, rs.length = j ∧ RowFit cs n rs ∧ ∃ b8 b9 b10 b11 b12 G', ρ = [some (.ref 1), some (.bl sure), some (.int n), some (.ref (T.length + 2)), a4, some (.ref (T.length + 3)), a6, some (.ref (B.length + 2)), b8, b9, b10, b11, b12] ∧ Hp2 (B ++ .lst (rs.map valD) :: G') S') (cs.map pD) [some (.ref 1), some (.bl sure), some (.int n), some (.ref (T.length + 2)), a4, some (.ref (T.length + 3)), a6, some (.ref (B.length + 2)), a8, a9, a10, a11, a12] (S ++ [.lst []]) ⟨[], rfl, fun i u p h => absurd h (by simp), a8, a9, a10, a11, a12, [], rfl, h1⟩ fun i d hd ρ S1 hP => by
    obtain ⟨rs, hr, hf, b8, b9, b10, b11, b12, G', rfl, hS1⟩ := hP
    rw [List.getElem?_map] at hd
    obtain ⟨p, hp, rfl⟩ := Option.map_eq_some_iff.mp hd
    have hi := get_lt hp
    obtain ⟨p1, p2, p3, p4⟩ := hc.2 p (List.mem_of_getElem? hp)
    have hc1 := hc.1
    obtain ⟨u, G2, S2, c10, c11, c12, q1, q2, q3, q4⟩ := th_3 c (a := p.1) (b := p.2) hn hn2 (by omega) (by omega) (by omega) sure (by rw [List.length_map]; omega) (some (.ref (T.length + 2))) a4 (some (.ref (T.length + 3))) a6 b10 b11 b12 hS1
    refine ⟨_, asg_p2 .., _, _, .inl (by simpa using q3), gC q4, rs ++ [u], by simp [hr], ?_, some (.int (p.1 : Nat)), some (.int (p.2 : Nat)), c10, c11, c12, G2, rfl, by rw [List.map_append]; exact q4⟩
    intro i' u' p' h1 h2
    by_cases g : i' < rs.length
    · rw [List.getElem?_append_left g] at h1
      exact hf i' u' p' h1 h2
    · have g2 : i' = rs.length := by
        have := get_lt h1
        simp at this
        omega
      subst g2
      rw [hr] at h2
      rw [hp] at h2
      cases h2
      simp at h1
      subst h1
      exact ⟨q1, q2⟩
  rw [List.length_map] at hr
  have s2 : sFor (.tp [(.nm 8), (.nm 9)]) (iSeq (eV 3)) (lb__law_thing_3 c) [some (.ref 1), some (.bl sure), some (.int n), some (.ref (T.length + 2)), a4, some (.ref (T.length + 3)), a6, some (.ref (B.length + 2)), a8, a9, a10, a11, a12] (S ++ [.lst []]) = .nx [some (.ref 1), some (.bl sure), some (.int n), some (.ref (T.length + 2)), a4, some (.ref (T.length + 3)), a6, some (.ref (B.length + 2)), b8, b9, b10, b11, b12] S' := by
    rw [for_nx (ds := cs.map pD) (chk := fun S' => S'[T.length + 2]? = some (.lst (cs.map pD))) (S1 := S ++ [.lst []]) (by simp [iSeq, eV, gC h1])]
    exact e1
  have q1 : S'[B.length + 2]? = some (.lst (rs.map valD)) := hp_get hS'
  have eB : B ++ .lst (rs.map valD) :: G' = (T ++ [.lst (cs.map pD)]) ++ .lst tab :: (G ++ .lst (rs.map valD) :: G') := by
    rw [hB]
    simp
  have lT : (T ++ [O.lst (cs.map pD)]).length + 2 = T.length + 3 := by simp
  rw [eB] at hS'
  have q2 : S'[T.length + 3]? = some (.lst tab) := by
    have := hp_get hS'
    rwa [lT] at this
  have q3 := hp_set hS' (.lst (tab ++ [rwD rs]))
  rw [lT] at q3
  refine ⟨rs, _, _, some (.ref (B.length + 2)), b8, b9, b10, b11, b12, hr, hf, ?_, by simpa using q3⟩
  unfold lb__law_thing_4
  rw [seq_nx s1, seq_nx s2]
  exact drop_app (S1 := S') (x := rwD rs) (q := T.length + 3) (by simp [eV]) q2 (by simp [eCall, aC, aN, eV, fTuple, seqOf, q1, rwD]) q2 (by omega)
end Z.k01
namespace Z.k01
open PySem L2 Z
variable (c : Ad)
theorem pick4 (T : Sto) (x y z : Nat) (hx : 1 ≤ x ∧ x ≤ 3) (hy : 1 ≤ y ∧ y ≤ 3) (hz : 1 ≤ z ∧ z ≤ 3) (S : Sto) (hS : Hp2 T S) : ∃ (a : Nat) (S' : Sto), (1 ≤ a ∧ a ≤ 3) ∧ F__law_pick c [.ref 1, .lst [.int (1 : Nat), .int x, .int y, .int z]] S = .ok (.int a) S' ∧ Hp2 T S' := by
  obtain ⟨r, S', d, h1, h2, h3⟩ := pick_l c T [.int (1 : Nat), .int x, .int y, .int z] (by simp) (by simp) S hS
  match r, h1 with
  | 0, h1 => cases h1; exact ⟨1, S', by omega, h2, h3⟩
  | 1, h1 => cases h1; exact ⟨x, S', hx, h2, h3⟩
  | 2, h1 => cases h1; exact ⟨y, S', hy, h2, h3⟩
  | 3, h1 => cases h1; exact ⟨z, S', hz, h2, h3⟩
  | r + 4, h1 => simp at h1
theorem th_1 {T G : Sto} {S : Sto} {cs : List (Nat × Nat)} (hc : cs.length ≤ 100) (a1 a2 a4 a5 a6 a7 a8 a9 a10 a11 a12 : Option D) (hS : Hp2 (T ++ .lst (cs.map pD) :: G) S) :
    ∃ (p : Nat × Nat) (S' : Sto), (1 ≤ p.1 ∧ p.1 ≤ 3 ∧ 1 ≤ p.2 ∧ p.2 ≤ 3) ∧ lb__law_thing_1 c [some (.ref 1), a1, a2, some (.ref (T.length + 2)), a4, a5, a6, a7, a8, a9, a10, a11, a12] S = .nx [some (.ref 1), a1, a2, some (.ref (T.length + 2)), a4, a5, a6, a7, a8, a9, a10, a11, a12] S' ∧ Hp2 (T ++ .lst ((cs ++ [p]).map pD) :: G) S' := by
  obtain ⟨a, S1, ha, e1, h1⟩ := pick4 c _ 1 2 3 (by omega) (by omega) (by omega) S hS
  obtain ⟨b, S2, hb, e2, h2⟩ := pick4 c _ 2 2 3 (by omega) (by omega) (by omega) S1 h1
  have e1' : F__law_pick c [.ref 1, .lst [.int 1, .int 1, .int 2, .int 3]] S = .ok (.int (a : Nat)) S1 := e1
  have e2' : F__law_pick c [.ref 1, .lst [.int 1, .int 2, .int 2, .int 3]] S1 = .ok (.int (b : Nat)) S2 := e2
  have q1 := hp_get hS
  have q2 := hp_get h2
  refine ⟨(a, b), _, ⟨ha.1, ha.2, hb.1, hb.2⟩, drop_app (S1 := S2) (x := pD (a, b)) (by simp [eV]) q1 ?_ q2 (by rw [List.length_map]; omega), ?_⟩
  · simp [eTup, aC, aN, eFn, eV, eLV, eC, dl__law_pick, e1', e2', pD]
  · have := hp_set h2 (.lst (cs.map pD ++ [pD (a, b)]))
    rw [List.map_append]
    exact this
def kOf (cs : List (Nat × Nat)) : Cl := fun i => (cs[i]?).getD (1, 1)
def fOf (tab : List (List Lots)) : Fl := fun s i v => (((((tab[s]?).getD [])[i]?).getD [])[v]?).getD []
theorem calls_of_cs (cs : List (Nat × Nat)) : callsD cs.length (kOf cs) = cs.map pD := by
  apply List.ext_getElem?
  intro i
  by_cases hi : i < cs.length
  · simp [callsD, kOf, hi, pD]
  · simp [callsD, hi]
theorem tab_of (cs : List (Nat × Nat)) (n : Nat) (tab : List (List Lots)) (hl : ∀ rs ∈ tab, rs.length = cs.length ∧ RowFit cs n rs) : tabD tab.length cs.length (kOf cs) (fOf tab) = tab.map rwD := by
  apply List.ext_getElem?
  intro s
  by_cases hs : s < tab.length
  · obtain ⟨rs, hr⟩ := get_of hs
    rw [tabD_at hs, List.getElem?_map, hr, Option.map_some]
    obtain ⟨h1, h2⟩ := hl rs (List.mem_of_getElem? hr)
    congr 1
    show D.tup _ = D.tup _
    congr 1
    apply List.ext_getElem?
    intro i
    by_cases hi : i < cs.length
    · obtain ⟨u, hu⟩ := get_of (xs := rs) (i := i) (by omega)
      obtain ⟨p, hp⟩ := get_of hi
      obtain ⟨h3, h4⟩ := h2 i u p hu hp
      rw [List.getElem?_map, List.getElem?_map, hu, List.getElem?_range hi]
      simp only [Option.map_some]
      congr 1
      show D.tup _ = D.tup _
      congr 1
      unfold valsD
      apply List.ext_getElem?
      intro v
      have ek : (kOf cs i).1 = u.length := by simp [kOf, hp, h3]
      by_cases hv : v < u.length
      · simp [ek, hv, fOf, hr, hu]
      · simp [ek, hv]
    · have : ¬ i < rs.length := by omega
      simp [hi, List.getElem?_eq_none (show rs.length ≤ i by omega)]
  · simp [tabD, hs]
theorem okk_of (cs : List (Nat × Nat)) (tab : List (List Lots)) (hc : CsOk cs) (hc1 : 1 ≤ cs.length) (ht1 : 1 ≤ tab.length) (ht2 : tab.length ≤ 256) (hl : ∀ rs ∈ tab, rs.length = cs.length ∧ RowFit cs tab.length rs) : Okk tab.length cs.length (kOf cs) (fOf tab) := by
  refine ⟨ht1, ht2, hc1, by have := hc.1; omega, fun i hi => ?_, fun s i v hs hi hv => ?_⟩
  · obtain ⟨p, hp⟩ := get_of hi
    have := hc.2 p (List.mem_of_getElem? hp)
    simp only [kOf, hp, Option.getD_some]
    omega
  · obtain ⟨p, hp⟩ := get_of hi
    obtain ⟨rs, hr⟩ := get_of hs
    obtain ⟨h1, h2⟩ := hl rs (List.mem_of_getElem? hr)
    obtain ⟨u, hu⟩ := get_of (xs := rs) (i := i) (by omega)
    obtain ⟨h3, h4⟩ := h2 i u p hu hp
    have ek : kOf cs i = p := by simp [kOf, hp]
    rw [ek] at hv ⊢
    obtain ⟨l, hlv⟩ := get_of (xs := u) (i := v) (by omega)
    have ef : fOf tab s i v = l := by simp [fOf, hr, hu, hlv]
    rw [ef]
    exact h4 l (List.mem_of_getElem? hlv)
theorem thing_i {T : Sto} {S : Sto} (sure : Bool) (hS : Hp2 T S) : ∃ (n m : Nat) (k : Cl) (f : Fl) (G S' : Sto), Okk n m k f ∧ n ≤ 5 ∧ m ≤ 3 ∧ (∀ i, i < m → (k i).1 ≤ 3) ∧ F__law_thing c [.ref 1, .bl sure] S = .ok (.tup [.tup (callsD m k), .tup (tabD n m k f)]) S' ∧ Hp2 (T ++ G) S' := by
  obtain ⟨r, S1, hr, e1, h1⟩ := draw_i c T 5 (by omega) (by omega) S hS
  have e1' : F__law_draw c [.ref 1, .int 5] S = .ok (.int (r : Nat)) S1 := e1
  have l1 := hp_len h1
  have h2 := hp_push h1 [.lst []]
  obtain ⟨w, S2, hw, e2, h3⟩ := draw_i c _ 3 (by omega) (by omega) _ h2
  have e2' : F__law_draw c [.ref 1, .int 3] (S1 ++ [.lst []]) = .ok (.int (w : Nat)) S2 := e2
  obtain ⟨n, hn⟩ : ∃ n, n = 1 + r := ⟨_, rfl⟩
  have en : (1 : Int) + (r : Int) = ((n : Nat) : Int) := by omega
  obtain ⟨M, hM⟩ : ∃ M, M = 1 + w := ⟨_, rfl⟩
  have ew : (1 : Int) + (w : Int) = ((M : Nat) : Int) := by omega
  obtain ⟨ρ', S3, f1, cs, hcl, hc, a4, hρ, h4⟩ := forI_idx (tg := .nm 4) (chk := fun _ => True) (b := lb__law_thing_1 c) (fun j ρ S' => ∃ cs : List (Nat × Nat), cs.length = j ∧ (∀ p ∈ cs, 1 ≤ p.1 ∧ p.1 ≤ 3 ∧ 1 ≤ p.2 ∧ p.2 ≤ 3) ∧ ∃ a4, ρ = [some (.ref 1), some (.bl sure), some (.int (n : Nat)), some (.ref (T.length + 2)), a4, none, none, none, none, none, none, none, none] ∧ Hp2 (T ++ [.lst (cs.map pD)]) S') (iRow 0 M) [some (.ref 1), some (.bl sure), some (.int (n : Nat)), some (.ref (T.length + 2)), none, none, none, none, none, none, none, none, none] S2 ⟨[], rfl, fun p h => absurd h (by simp), none, rfl, h3⟩ fun i d hd ρ S' hP => by
    obtain ⟨cs, h1, h2, a4, rfl, h4⟩ := hP
    have hi := get_lt hd
    rw [iRow_len] at hi
    obtain ⟨p, S'', q1, q2, q3⟩ := th_1 c (G := []) (by omega) (some (.bl sure)) (some (.int (n : Nat))) (some d) none none none none none none none none h4
    refine ⟨_, asg_nm .., _, _, .inl (by simpa using q2), trivial, cs ++ [p], by simp [h1], ?_, some d, rfl, q3⟩
    intro p' hp'
    rcases List.mem_append.mp hp' with h | h
    · exact h2 p' h
    · simp at h
      subst h
      exact q1
  subst hρ
  rw [iRow_len] at hcl
  have hcs : CsOk cs := ⟨by omega, hc⟩
  have l3 := hp_len h4
  have h5 := hp_push h4 [.lst []]
  have e5 : (T ++ [O.lst (cs.map pD)]) ++ [.lst []] = T ++ .lst (cs.map pD) :: .lst [] :: [] := by simp
  rw [e5] at h5
  obtain ⟨ρ', S4, f2, tab, htl, htf, b6, b7, b8, b9, b10, b11, b12, G, hρ, h6⟩ := forI_idx (tg := .nm 6) (chk := fun _ => True) (b := lb__law_thing_4 c) (fun j ρ S' => ∃ tab : List (List Lots), tab.length = j ∧ (∀ rs ∈ tab, rs.length = cs.length ∧ RowFit cs n rs) ∧ ∃ b6 b7 b8 b9 b10 b11 b12 G, ρ = [some (.ref 1), some (.bl sure), some (.int (n : Nat)), some (.ref (T.length + 2)), a4, some (.ref (T.length + 3)), b6, b7, b8, b9, b10, b11, b12] ∧ Hp2 (T ++ .lst (cs.map pD) :: .lst (tab.map rwD) :: G) S') (iRow 0 n) [some (.ref 1), some (.bl sure), some (.int (n : Nat)), some (.ref (T.length + 2)), a4, some (.ref (T.length + 3)), none, none, none, none, none, none, none] (S3 ++ [.lst []]) ⟨[], rfl, fun p h => absurd h (by simp), none, none, none, none, none, none, none, [], rfl, h5⟩ fun i d hd ρ S' hP => by
    obtain ⟨tab, q1, q2, b6, b7, b8, b9, b10, b11, b12, G, rfl, q3⟩ := hP
    have hi := get_lt hd
    rw [iRow_len] at hi
    obtain ⟨rs, G', S'', d7, d8, d9, d10, d11, d12, p1, p2, p3, p4⟩ := th_4 c (n := n) (by omega) (by omega) hcs sure (by rw [List.length_map]; omega) a4 (some d) b7 b8 b9 b10 b11 b12 q3
    refine ⟨_, asg_nm .., _, _, .inl (by simpa using p3), trivial, tab ++ [rs], by simp [q1], ?_, some d, d7, d8, d9, d10, d11, d12, G', rfl, by rw [List.map_append]; exact p4⟩
    intro rs' hrs
    rcases List.mem_append.mp hrs with h | h
    · exact q2 rs' h
    · simp at h
      subst h
      exact ⟨p1, p2⟩
  subst hρ
  rw [iRow_len] at htl
  rw [← htl] at htf
  have hk := okk_of cs tab hcs (by omega) (by omega) (by omega) htf
  refine ⟨tab.length, cs.length, kOf cs, fOf tab, .lst (cs.map pD) :: .lst (tab.map rwD) :: G, S4, hk, by omega, by omega, fun i hi => ?_, ?_, h6⟩
  · obtain ⟨p, hp⟩ := get_of hi
    have := hc p (List.mem_of_getElem? hp)
    simp only [kOf, hp, Option.getD_some]
    omega
  · rw [calls_of_cs, tab_of cs tab.length tab htf]
    have g1 : S4[T.length + 2]? = some (.lst (cs.map pD)) := hp_get h6
    have g2 : S4[T.length + 3]? = some (.lst (tab.map rwD)) := hp_at h6 (i := T.length + 1) (by simp)
    show runB 13 (den__law_thing c) [.ref 1, .bl sure] S = _
    refine run_rt ?_
    unfold den__law_thing
    show sSeq _ _ [some (.ref 1), some (.bl sure), none, none, none, none, none, none, none, none, none, none, none] S = _
    rw [seq_par (d := .int (n : Nat)) (S1 := S1) (e := .ref (T.length + 2)) (S' := S1 ++ [.lst []]) (by simp [Z.e2, eC, eFn, aC, aN, eV, dl__law_draw, e1', fPlus, en]) (by simp [eLN, aN, l1])]
    have i2 : iR1 (Z.e2 fPlus (eC (.int 1)) (eFn 2 (F__law_draw c) (dl__law_draw.drop 0) (aC (eV 0) (aC (eC (.int 3)) aN)))) [some (.ref 1), some (.bl sure), some (.int (n : Nat)), some (.ref (T.length + 2)), none, none, none, none, none, none, none, none, none] (S1 ++ [.lst []]) = .ok (iRow 0 M, fun _ => True) S2 := iR1_nat (by simp [Z.e2, eC, eFn, aC, aN, eV, dl__law_draw, e2', fPlus, ew]) (by omega)
    refine Eq.trans (seq_nx (Eq.trans (for_nx i2) f1)) ?_
    rw [seq_set (d := .ref (T.length + 3)) (S' := S3 ++ [.lst []]) (by simp [eLN, aN, l3])]
    have i3 : iR1 (eV 2) [some (.ref 1), some (.bl sure), some (.int (n : Nat)), some (.ref (T.length + 2)), a4, some (.ref (T.length + 3)), none, none, none, none, none, none, none] (S3 ++ [.lst []]) = .ok (iRow 0 n, fun _ => True) (S3 ++ [.lst []]) := iR1_nat (by simp [eV]) (by omega)
    refine Eq.trans (seq_nx (Eq.trans (for_nx i3) f2)) ?_
    simp [sRet, eTup, aC, aN, eCall, eV, fTuple, seqOf, g1, g2]
end Z.k01
namespace Z.k01
open PySem L2 Z
variable (c : Ad)
/-! ### some tuples as lists -/
def Tu : Nat → D → Prop
  | 0, _ => True
  | d + 1, .tup xs => xs.length ≤ 1000 ∧ ∀ x ∈ xs, Tu d x
  | _, _ => False
def Ls : Nat → D → D → Prop
  | 0, x, y => y = x
  | d + 1, .tup xs, y => ∃ ys, Sq y ys ∧ ys.length = xs.length ∧ ∀ (i : Nat) a b, xs[i]? = some a → ys[i]? = some b → Ls d a b
  | _, _, _ => False
theorem listed_i (T : Sto) : ∀ (q d : Nat) (x : D) (S : Sto), d < q → Tu d x → Hp2 T S → ∃ y S', F__law_listed c q [.ref 1, x, .int d] S = .ok y S' ∧ Hp2 T S' ∧ Ls d x y
  | 0, d, x, S, h, _, _ => by omega
  | q + 1, 0, x, S, h, _, hS => by
    refine ⟨x, S, ?_, hS, rfl⟩
    simp [F__law_listed, den__law_listed, runB, env0, sSeq, sRet, sRetN, sIf, sSet, sDrop, sNx, sPar, sAsg, sAttr, sPut, sRaise, Tg.asg, Tg.asgs, eAnd, eOr, eNot, eIf, tAnd, tOr, tNot, tV, tVB, tYes, eCall, eFn, eMk, eMt, eFld, eBM, aC, aN, eV, eC, Z.e1, Z.e2, eTup, eLV, eLN, eChain, eSl, fIsi, tyD, isK, anyK, tNames, rB, tru, fLen, fTuple, fAbs, fInt, fAll, fAny, fIsN, fNotN, fIsB, fNotB, fNeg, seqOf, lstOf, isL, fLt_ii, fLe_ii, fGt_ii, fGe_ii, fSub_ii, fPlus, fMod_ii, fMul_ii, fDiv_ii, fEq, fNe, eqD_int, fIx, atI_0, atI_1, atI_2, lLc, lLc2, iSeq, iCall, fEnum, fZip, wipeD, putD, lSl, lRev, R.to_ok, R.bind_ok]
  | q + 1, d + 1, .tup xs, S, h, ⟨hl, hx⟩, hS => by
    obtain ⟨ys, S1, e1, h1, h2, h3⟩ := lcI_state (tg := .nm 4) (chk := fun _ => True) (e := eFn 3 (F__law_listed c q) dl__law_listed (aC (eV 0) (aC (eV 4) (aC (Z.e2 fSub (eV 2) (eC (.int 1))) aN)))) (ρ0 := [some (.ref 1), some (.tup xs), some (.int ((d + 1 : Nat) : Int)), none, none]) (Hp2 T) (Ls d) (fun _ _ => trivial) xs S hS fun a ha S1 h1 => by
      obtain ⟨y, S', q1, q2, q3⟩ := listed_i T q d a S1 (by omega) (hx a ha) h1
      refine ⟨_, asg_nm .., y, S', ?_, q2, q3⟩
      have e : ((d + 1 : Nat) : Int) - 1 = (d : Int) := by omega
      simp only [eFn, aC, aN, eV, Z.e2, eC, fSub_ii, e]
      simp [dl__law_listed, fSub_ii, q1]
    obtain ⟨r, S2, hr, e2, h4⟩ := draw_i c T 2 (by omega) (by omega) S1 h1
    have e2' : F__law_draw c [.ref 1, .int 2] S1 = .ok (.int (r : Nat)) S2 := e2
    have er : decide ((r : Int) = 0) = decide (r = 0) := decide_eq_decide.mpr (by omega)
    have ne : ¬ ((d : Int) + 1 = 0) := by omega
    have hl' : xs.length ≤ 16777216 := by omega
    obtain ⟨dd, hdd⟩ : ∃ dd : Int, dd = ((d + 1 : Nat) : Int) := ⟨_, rfl⟩
    have nd : ¬ dd = 0 := by omega
    rw [← hdd] at e1 ⊢
    by_cases g : r = 0
    · refine ⟨.lst ys, S2, ?_, h4, ys, .inr rfl, h2, h3⟩
      simp [F__law_listed, den__law_listed, dl__law_draw, nd, e1, hl', e2', er, g, runB, env0, sSeq, sRet, sRetN, sIf, sSet, sDrop, sNx, sPar, sAsg, sAttr, sPut, sRaise, Tg.asg, Tg.asgs, eAnd, eOr, eNot, eIf, tAnd, tOr, tNot, tV, tVB, tYes, eCall, eFn, eMk, eMt, eFld, eBM, aC, aN, eV, eC, Z.e1, Z.e2, eTup, eLV, eLN, eChain, eSl, fIsi, tyD, isK, anyK, tNames, rB, tru, fLen, fTuple, fAbs, fInt, fAll, fAny, fIsN, fNotN, fIsB, fNotB, fNeg, seqOf, lstOf, isL, fLt_ii, fLe_ii, fGt_ii, fGe_ii, fSub_ii, fPlus, fMod_ii, fMul_ii, fDiv_ii, fEq, fNe, eqD_int, fIx, atI_0, atI_1, atI_2, lLc, lLc2, iSeq, iCall, fEnum, fZip, wipeD, putD, lSl, lRev, R.to_ok, R.bind_ok]
    · refine ⟨.tup ys, S2, ?_, h4, ys, .inl rfl, h2, h3⟩
      simp [F__law_listed, den__law_listed, dl__law_draw, nd, e1, hl', e2', er, g, runB, env0, sSeq, sRet, sRetN, sIf, sSet, sDrop, sNx, sPar, sAsg, sAttr, sPut, sRaise, Tg.asg, Tg.asgs, eAnd, eOr, eNot, eIf, tAnd, tOr, tNot, tV, tVB, tYes, eCall, eFn, eMk, eMt, eFld, eBM, aC, aN, eV, eC, Z.e1, Z.e2, eTup, eLV, eLN, eChain, eSl, fIsi, tyD, isK, anyK, tNames, rB, tru, fLen, fTuple, fAbs, fInt, fAll, fAny, fIsN, fNotN, fIsB, fNotB, fNeg, seqOf, lstOf, isL, fLt_ii, fLe_ii, fGt_ii, fGe_ii, fSub_ii, fPlus, fMod_ii, fMul_ii, fDiv_ii, fEq, fNe, eqD_int, fIx, atI_0, atI_1, atI_2, lLc, lLc2, iSeq, iCall, fEnum, fZip, wipeD, putD, lSl, lRev, R.to_ok, R.bind_ok]
  | q + 1, d + 1, .int _, S, h, ht, hS => ht.elim
  | q + 1, d + 1, .str _, S, h, ht, hS => ht.elim
  | q + 1, d + 1, .non, S, h, ht, hS => ht.elim
  | q + 1, d + 1, .bl _, S, h, ht, hS => ht.elim
  | q + 1, d + 1, .lst _, S, h, ht, hS => ht.elim
  | q + 1, d + 1, .scr _, S, h, ht, hS => ht.elim
  | q + 1, d + 1, .ref _, S, h, ht, hS => ht.elim
  | q + 1, d + 1, .adr _, S, h, ht, hS => ht.elim
  | q + 1, d + 1, .ty _, S, h, ht, hS => ht.elim
section
variable {n m : Nat} {k : Cl} {f : Fl}
theorem tu_calls (o : Okk n m k f) : Tu 2 (.tup (callsD m k)) := by
  have := o.m2
  refine ⟨by rw [callsD_len]; omega, fun x hx => ?_⟩
  obtain ⟨i, hi⟩ := mem_get hx
  obtain ⟨_, rfl⟩ := callsD_get hi
  exact ⟨by simp, fun _ _ => trivial⟩
theorem tu_tab (o : Okk n m k f) : Tu 3 (.tup (tabD n m k f)) := by
  have h1 := o.n2
  have h2 := o.m2
  refine ⟨by rw [tabD_len]; omega, fun x hx => ?_⟩
  obtain ⟨s, _, rfl⟩ := List.mem_map.mp hx
  refine ⟨by simp; omega, fun x hx => ?_⟩
  obtain ⟨i, hi, rfl⟩ := List.mem_map.mp hx
  have := o.k1 i (List.mem_range.mp hi)
  exact ⟨by rw [vals_len]; omega, fun _ _ => trivial⟩
theorem same_list {xs ys : List D} (h : ys.length = xs.length) (e : ∀ (i : Nat) a b, xs[i]? = some a → ys[i]? = some b → b = a) : ys = xs := by
  apply List.ext_getElem?
  intro i
  by_cases hi : i < xs.length
  · obtain ⟨a, ha⟩ := get_of hi
    obtain ⟨b, hb⟩ := get_of (xs := ys) (i := i) (by omega)
    rw [ha, hb, e i a b ha hb]
  · rw [List.getElem?_eq_none (by omega), List.getElem?_eq_none (by omega)]
theorem ls1 {xs : List D} {y : D} (h : Ls 1 (.tup xs) y) : Sq y xs := by
  obtain ⟨ys, h1, h2, h3⟩ := h
  have : ys = xs := same_list h2 h3
  rw [← this]
  exact h1
theorem ls_C {CD : D} (h : Ls 2 (.tup (callsD m k)) CD) : ∃ cs, IsC m k CD cs := by
  obtain ⟨ys, h1, h2, h3⟩ := h
  rw [callsD_len] at h2
  refine ⟨ys, h1, h2, fun i y hy => ?_⟩
  have hi := get_lt hy
  exact ls1 (h3 i _ y (callsD_at (by omega)) hy)
theorem ls_T {TD : D} (h : Ls 3 (.tup (tabD n m k f)) TD) : ∃ ts, Sq TD ts ∧ ts.length = n ∧ ∀ (s : Nat) y, ts[s]? = some y → IsRow m k f s y := by
  obtain ⟨ts, h1, h2, h3⟩ := h
  rw [tabD_len] at h2
  refine ⟨ts, h1, h2, fun s y hy => ?_⟩
  have hs := get_lt hy
  obtain ⟨xs, g1, g2, g3⟩ := h3 s _ y (tabD_at (by omega)) hy
  have l : ((List.range m).map fun i => D.tup (valsD k f s i)).length = m := by simp
  rw [l] at g2
  refine ⟨xs, g1, g2, fun i z hz => ?_⟩
  have hi := get_lt hz
  refine ls1 (g3 i _ z ?_ hz)
  have hi' : i < m := by omega
  simp [hi']
end
end Z.k01
namespace Z.k01
open PySem L2 Z
variable (c : Ad) (S : Sto)
/-! ### tried -/
theorem tried_ok {n m : Nat} {k : Cl} {f : Fl} {CD TD : D} {cs ts : List D} (o : Okk n m k f) (hC : IsC m k CD cs) (ht : Sq TD ts) (hn : ts.length = n) (hr : ∀ (s : Nat) y, ts[s]? = some y → IsRow m k f s y) : F__law_tried c [CD, TD] S = .ok (.tup [.str "told", .ref S.length]) (S ++ [thing c n m k f]) := by
  have h := mk_ok c S o hC ht hn hr
  simp [F__law_tried, den__law_tried, sTry, dl_Thing_mk, h, runB, env0, sSeq, sRet, sRetN, sIf, sSet, sDrop, sNx, sPar, sAsg, sAttr, sPut, sRaise, Tg.asg, Tg.asgs, eAnd, eOr, eNot, eIf, tAnd, tOr, tNot, tV, tVB, tYes, eCall, eFn, eMk, eMt, eFld, eBM, aC, aN, eV, eC, Z.e1, Z.e2, eTup, eLV, eLN, eChain, eSl, fIsi, tyD, isK, anyK, tNames, rB, tru, fLen, fTuple, fAbs, fInt, fAll, fAny, fIsN, fNotN, fIsB, fNotB, fNeg, seqOf, lstOf, isL, fLt_ii, fLe_ii, fGt_ii, fGe_ii, fSub_ii, fPlus, fMod_ii, fMul_ii, fDiv_ii, fEq, fNe, eqD_int, fIx, atI_0, atI_1, atI_2, lLc, lLc2, iSeq, iCall, fEnum, fZip, wipeD, putD, lSl, lRev, R.to_ok, R.bind_ok]
theorem tried_no {x t d : D} (h : ∀ r S, F_Thing_mk c [r, x, t] S = .exc c.InvalidThing d S) : F__law_tried c [x, t] S = .ok (.tup [.str "wrong", d]) (S ++ [.ins c.Thing []]) := by
  have h1 := h (.ref S.length) (S ++ [.ins c.Thing []])
  simp [F__law_tried, den__law_tried, sTry, dl_Thing_mk, h1, xIf, xIs, xAt, Ad.mt_StrokesError, Ad.is_InvalidThing, R.safe, runB, env0, sSeq, sRet, sRetN, sIf, sSet, sDrop, sNx, sPar, sAsg, sAttr, sPut, sRaise, Tg.asg, Tg.asgs, eAnd, eOr, eNot, eIf, tAnd, tOr, tNot, tV, tVB, tYes, eCall, eFn, eMk, eMt, eFld, eBM, aC, aN, eV, eC, Z.e1, Z.e2, eTup, eLV, eLN, eChain, eSl, fIsi, tyD, isK, anyK, tNames, rB, tru, fLen, fTuple, fAbs, fInt, fAll, fAny, fIsN, fNotN, fIsB, fNotB, fNeg, seqOf, lstOf, isL, fLt_ii, fLe_ii, fGt_ii, fGe_ii, fSub_ii, fPlus, fMod_ii, fMul_ii, fDiv_ii, fEq, fNe, eqD_int, fIx, atI_0, atI_1, atI_2, lLc, lLc2, iSeq, iCall, fEnum, fZip, wipeD, putD, lSl, lRev, R.to_ok, R.bind_ok]
theorem tried_at {x t d : D} (h1 : F_Thing_mk c [.ref S.length, x, t] (S ++ [.ins c.Thing []]) = .exc c.InvalidThing d (S ++ [.ins c.Thing []])) : F__law_tried c [x, t] S = .ok (.tup [.str "wrong", d]) (S ++ [.ins c.Thing []]) := by
  simp [F__law_tried, den__law_tried, sTry, dl_Thing_mk, h1, xIf, xIs, xAt, Ad.mt_StrokesError, Ad.is_InvalidThing, R.safe, runB, env0, sSeq, sRet, sRetN, sIf, sSet, sDrop, sNx, sPar, sAsg, sAttr, sPut, sRaise, Tg.asg, Tg.asgs, eAnd, eOr, eNot, eIf, tAnd, tOr, tNot, tV, tVB, tYes, eCall, eFn, eMk, eMt, eFld, eBM, aC, aN, eV, eC, Z.e1, Z.e2, eTup, eLV, eLN, eChain, eSl, fIsi, tyD, isK, anyK, tNames, rB, tru, fLen, fTuple, fAbs, fInt, fAll, fAny, fIsN, fNotN, fIsB, fNotB, fNeg, seqOf, lstOf, isL, fLt_ii, fLe_ii, fGt_ii, fGe_ii, fSub_ii, fPlus, fMod_ii, fMul_ii, fDiv_ii, fEq, fNe, eqD_int, fIx, atI_0, atI_1, atI_2, lLc, lLc2, iSeq, iCall, fEnum, fZip, wipeD, putD, lSl, lRev, R.to_ok, R.bind_ok]
/-! ### calls that are none -/
def NoC (c : Ad) (x : D) : Prop := ∀ t r S, F_Thing_mk c [r, x, t] S = .exc c.InvalidThing (.str "calls") S
theorem noC_seq {x : D} (h : ∀ S, F_is_sequence c [x] S = .ok (.bl false) S) : NoC c x := fun t r S => mk_bad_calls c S (.inl h) r
theorem noC_len {ds : List D} (h : ¬ (1 ≤ ds.length ∧ ds.length ≤ 12)) : NoC c (.tup ds) := fun t r S => mk_bad_calls c S (.inr ⟨ds, .inl rfl, .inl h⟩) r
theorem noC_one {y : D} (h : ∀ S, F_is_call_row c [y] S = .ok (.bl false) S) : NoC c (.tup [y]) := fun t r S => mk_bad_calls c S (.inr ⟨[y], .inl rfl, .inr ⟨by simp, [false], fun a0 a1 a2 a3 a4 a5 S => by simp [lcI, dl_is_call_row, h, runB, env0, sSeq, sRet, sRetN, sIf, sSet, sDrop, sNx, sPar, sAsg, sAttr, sPut, sRaise, Tg.asg, Tg.asgs, eAnd, eOr, eNot, eIf, tAnd, tOr, tNot, tV, tVB, tYes, eCall, eFn, eMk, eMt, eFld, eBM, aC, aN, eV, eC, Z.e1, Z.e2, eTup, eLV, eLN, eChain, eSl, fIsi, tyD, isK, anyK, tNames, rB, tru, fLen, fTuple, fAbs, fInt, fAll, fAny, fIsN, fNotN, fIsB, fNotB, fNeg, seqOf, lstOf, isL, fLt_ii, fLe_ii, fGt_ii, fGe_ii, fSub_ii, fPlus, fMod_ii, fMul_ii, fDiv_ii, fEq, fNe, eqD_int, fIx, atI_0, atI_1, atI_2, lLc, lLc2, iSeq, iCall, fEnum, fZip, wipeD, putD, lSl, lRev, R.to_ok, R.bind_ok], rfl⟩⟩) r
theorem row_no : F_is_call_row c [.non] S = .ok (.bl false) S := by simp [F_is_call_row, den_is_call_row, dl_is_sequence, no_seq_non, runB, env0, sSeq, sRet, sRetN, sIf, sSet, sDrop, sNx, sPar, sAsg, sAttr, sPut, sRaise, Tg.asg, Tg.asgs, eAnd, eOr, eNot, eIf, tAnd, tOr, tNot, tV, tVB, tYes, eCall, eFn, eMk, eMt, eFld, eBM, aC, aN, eV, eC, Z.e1, Z.e2, eTup, eLV, eLN, eChain, eSl, fIsi, tyD, isK, anyK, tNames, rB, tru, fLen, fTuple, fAbs, fInt, fAll, fAny, fIsN, fNotN, fIsB, fNotB, fNeg, seqOf, lstOf, isL, fLt_ii, fLe_ii, fGt_ii, fGe_ii, fSub_ii, fPlus, fMod_ii, fMul_ii, fDiv_ii, fEq, fNe, eqD_int, fIx, atI_0, atI_1, atI_2, lLc, lLc2, iSeq, iCall, fEnum, fZip, wipeD, putD, lSl, lRev, R.to_ok, R.bind_ok]
theorem row_1 (a : D) : F_is_call_row c [.tup [a]] S = .ok (.bl false) S := by simp [F_is_call_row, den_is_call_row, dl_is_sequence, is_seq_t, runB, env0, sSeq, sRet, sRetN, sIf, sSet, sDrop, sNx, sPar, sAsg, sAttr, sPut, sRaise, Tg.asg, Tg.asgs, eAnd, eOr, eNot, eIf, tAnd, tOr, tNot, tV, tVB, tYes, eCall, eFn, eMk, eMt, eFld, eBM, aC, aN, eV, eC, Z.e1, Z.e2, eTup, eLV, eLN, eChain, eSl, fIsi, tyD, isK, anyK, tNames, rB, tru, fLen, fTuple, fAbs, fInt, fAll, fAny, fIsN, fNotN, fIsB, fNotB, fNeg, seqOf, lstOf, isL, fLt_ii, fLe_ii, fGt_ii, fGe_ii, fSub_ii, fPlus, fMod_ii, fMul_ii, fDiv_ii, fEq, fNe, eqD_int, fIx, atI_0, atI_1, atI_2, lLc, lLc2, iSeq, iCall, fEnum, fZip, wipeD, putD, lSl, lRev, R.to_ok, R.bind_ok]
theorem row_3 (a b d : D) : F_is_call_row c [.tup [a, b, d]] S = .ok (.bl false) S := by simp [F_is_call_row, den_is_call_row, dl_is_sequence, is_seq_t, runB, env0, sSeq, sRet, sRetN, sIf, sSet, sDrop, sNx, sPar, sAsg, sAttr, sPut, sRaise, Tg.asg, Tg.asgs, eAnd, eOr, eNot, eIf, tAnd, tOr, tNot, tV, tVB, tYes, eCall, eFn, eMk, eMt, eFld, eBM, aC, aN, eV, eC, Z.e1, Z.e2, eTup, eLV, eLN, eChain, eSl, fIsi, tyD, isK, anyK, tNames, rB, tru, fLen, fTuple, fAbs, fInt, fAll, fAny, fIsN, fNotN, fIsB, fNotB, fNeg, seqOf, lstOf, isL, fLt_ii, fLe_ii, fGt_ii, fGe_ii, fSub_ii, fPlus, fMod_ii, fMul_ii, fDiv_ii, fEq, fNe, eqD_int, fIx, atI_0, atI_1, atI_2, lLc, lLc2, iSeq, iCall, fEnum, fZip, wipeD, putD, lSl, lRev, R.to_ok, R.bind_ok]
theorem row_01 : F_is_call_row c [.tup [.int 0, .int 1]] S = .ok (.bl false) S := by simp [F_is_call_row, den_is_call_row, dl_is_sequence, dl_is_kind, is_seq_t, lcI, is_kind_i, bools, runB, env0, sSeq, sRet, sRetN, sIf, sSet, sDrop, sNx, sPar, sAsg, sAttr, sPut, sRaise, Tg.asg, Tg.asgs, eAnd, eOr, eNot, eIf, tAnd, tOr, tNot, tV, tVB, tYes, eCall, eFn, eMk, eMt, eFld, eBM, aC, aN, eV, eC, Z.e1, Z.e2, eTup, eLV, eLN, eChain, eSl, fIsi, tyD, isK, anyK, tNames, rB, tru, fLen, fTuple, fAbs, fInt, fAll, fAny, fIsN, fNotN, fIsB, fNotB, fNeg, seqOf, lstOf, isL, fLt_ii, fLe_ii, fGt_ii, fGe_ii, fSub_ii, fPlus, fMod_ii, fMul_ii, fDiv_ii, fEq, fNe, eqD_int, fIx, atI_0, atI_1, atI_2, lLc, lLc2, iSeq, iCall, fEnum, fZip, wipeD, putD, lSl, lRev, R.to_ok, R.bind_ok]
theorem row_17 : F_is_call_row c [.tup [.int 17, .int 1]] S = .ok (.bl false) S := by simp [F_is_call_row, den_is_call_row, dl_is_sequence, dl_is_kind, is_seq_t, lcI, is_kind_i, bools, runB, env0, sSeq, sRet, sRetN, sIf, sSet, sDrop, sNx, sPar, sAsg, sAttr, sPut, sRaise, Tg.asg, Tg.asgs, eAnd, eOr, eNot, eIf, tAnd, tOr, tNot, tV, tVB, tYes, eCall, eFn, eMk, eMt, eFld, eBM, aC, aN, eV, eC, Z.e1, Z.e2, eTup, eLV, eLN, eChain, eSl, fIsi, tyD, isK, anyK, tNames, rB, tru, fLen, fTuple, fAbs, fInt, fAll, fAny, fIsN, fNotN, fIsB, fNotB, fNeg, seqOf, lstOf, isL, fLt_ii, fLe_ii, fGt_ii, fGe_ii, fSub_ii, fPlus, fMod_ii, fMul_ii, fDiv_ii, fEq, fNe, eqD_int, fIx, atI_0, atI_1, atI_2, lLc, lLc2, iSeq, iCall, fEnum, fZip, wipeD, putD, lSl, lRev, R.to_ok, R.bind_ok]
theorem row_1t : F_is_call_row c [.tup [.int 1, .bl true]] S = .ok (.bl false) S := by simp [F_is_call_row, den_is_call_row, dl_is_sequence, dl_is_kind, is_seq_t, lcI, is_kind_i, is_kind_no c _ (noI_bl c true), bools, runB, env0, sSeq, sRet, sRetN, sIf, sSet, sDrop, sNx, sPar, sAsg, sAttr, sPut, sRaise, Tg.asg, Tg.asgs, eAnd, eOr, eNot, eIf, tAnd, tOr, tNot, tV, tVB, tYes, eCall, eFn, eMk, eMt, eFld, eBM, aC, aN, eV, eC, Z.e1, Z.e2, eTup, eLV, eLN, eChain, eSl, fIsi, tyD, isK, anyK, tNames, rB, tru, fLen, fTuple, fAbs, fInt, fAll, fAny, fIsN, fNotN, fIsB, fNotB, fNeg, seqOf, lstOf, isL, fLt_ii, fLe_ii, fGt_ii, fGe_ii, fSub_ii, fPlus, fMod_ii, fMul_ii, fDiv_ii, fEq, fNe, eqD_int, fIx, atI_0, atI_1, atI_2, lLc, lLc2, iSeq, iCall, fEnum, fZip, wipeD, putD, lSl, lRev, R.to_ok, R.bind_ok]
/-! ### tables that are none -/
section
variable {n m : Nat} {k : Cl} {f : Fl} {CD TD : D} {cs ts : List D}
def NoT (c : Ad) (x t : D) (d : D) : Prop := ∀ r S, F_Thing_mk c [r, x, t] S = .exc c.InvalidThing d S
theorem isC_t (m : Nat) (k : Cl) : IsC m k (.tup (callsD m k)) (callsD m k) := ⟨.inl rfl, callsD_len m k, fun i y hy => .inl (callsD_get hy).2⟩
theorem isRow_t {s : Nat} {y : D} (h : (tabD n m k f)[s]? = some y) : IsRow m k f s y := by
  have h1 := get_lt h
  rw [tabD_len] at h1
  rw [tabD_at h1] at h
  cases h
  refine ⟨_, .inl rfl, by simp, fun i z hz => ?_⟩
  have hi := get_lt hz
  simp at hi
  simp [hi] at hz
  subst hz
  exact .inl rfl
theorem noT_seq (o : Okk n m k f) {t : D} (h : ∀ S, F_is_sequence c [t] S = .ok (.bl false) S) : NoT c (.tup (callsD m k)) t (.str "table") := fun r S => mk_bad_table c S o (isC_t m k) r t (.inl (h S))
theorem noT_len (o : Okk n m k f) {ds : List D} (h : ¬ (1 ≤ ds.length ∧ ds.length ≤ 256)) : NoT c (.tup (callsD m k)) (.tup ds) (.str "table") := fun r S => mk_bad_table c S o (isC_t m k) r _ (.inr ⟨ds, .inl rfl, h⟩)
/-- a table with a wrong row at s -/
theorem noT_at (o : Okk n m k f) {s i : Nat} (hs : s < n) {v : Int} {y : D} (hb : RowBad c (.tup (callsD m k)) (.tup ((tabD n m k f).take s ++ y :: (tabD n m k f).drop (s + 1))) (callsD m k) s y i v) : NoT c (.tup (callsD m k)) (.tup ((tabD n m k f).take s ++ y :: (tabD n m k f).drop (s + 1))) (.tup [.int (s : Nat), .int (i : Nat), .int v]) := fun r S => by
  have l : ((tabD n m k f).take s ++ y :: (tabD n m k f).drop (s + 1)).length = n := by
    have := tabD_len n m k f
    simp [this]
    omega
  have h1 := o.n1
  have h2 := o.n2
  refine mk_wrong c S o (isC_t m k) r (.inl rfl) (by omega) (wrong_at c S o (isC_t m k) (.inl rfl) l (s := s) (y := y) ?_ (fun j w hj hw => ?_) hb)
  · have e : ((tabD n m k f).take s).length = s := by
      have := tabD_len n m k f
      simp [this]
      omega
    rw [List.getElem?_append_right (by omega), e]
    simp
  · have e : ((tabD n m k f).take s).length = s := by
      have := tabD_len n m k f
      simp [this]
      omega
    rw [List.getElem?_append_left (by omega), List.getElem?_take, if_pos hj] at hw
    exact isRow_t hw
end
end Z.k01
namespace Z.k01
open PySem L2 Z
variable (c : Ad) (S : Sto)
/-! ### what is refused, and where -/
theorem shaped_strs {a b : Str} (h : SeqAt.shaped (.tuple [.str a, .str b]) = true) : eqD S (.tup [.str a, .str b]) (.tup [.str a, .str b]) = some true := by
  unfold eqD
  simp only [toP, toPs, Option.map_some, Option.bind_some, h, and_self, if_true, PyData.eqv, PyData.eqvAll]
  simp
theorem eq_calls : eqD S (.tup [.str "wrong", .str "calls"]) (.tup [.str "wrong", .str "calls"]) = some true := shaped_strs S (by decide +kernel)
theorem eq_table : eqD S (.tup [.str "wrong", .str "table"]) (.tup [.str "wrong", .str "table"]) = some true := shaped_strs S (by decide +kernel)
theorem ck_1 {d : D} (h : NoC c d) (a0 a1 a2 a4 a5 a6 a7 a8 a9 a10 a11 a12 : Option D) : lb__law_checked_1 c [a0, a1, a2, some d, a4, a5, a6, a7, a8, a9, a10, a11, a12] S = .nx [a0, a1, a2, some d, a4, a5, a6, a7, a8, a9, a10, a11, a12] (S ++ [.ins c.Thing []]) := by
  have e := tried_no c S (x := d) (t := .non) (d := .str "calls") fun r S => h .non r S
  have q := eq_calls (S ++ [.ins c.Thing []])
  simp [lb__law_checked_1, dl__law_tried, e, q, runB, env0, sSeq, sRet, sRetN, sIf, sSet, sDrop, sNx, sPar, sAsg, sAttr, sPut, sRaise, Tg.asg, Tg.asgs, eAnd, eOr, eNot, eIf, tAnd, tOr, tNot, tV, tVB, tYes, eCall, eFn, eMk, eMt, eFld, eBM, aC, aN, eV, eC, Z.e1, Z.e2, eTup, eLV, eLN, eChain, eSl, fIsi, tyD, isK, anyK, tNames, rB, tru, fLen, fTuple, fAbs, fInt, fAll, fAny, fIsN, fNotN, fIsB, fNotB, fNeg, seqOf, lstOf, isL, fLt_ii, fLe_ii, fGt_ii, fGe_ii, fSub_ii, fPlus, fMod_ii, fMul_ii, fDiv_ii, fEq, fNe, eqD_int, fIx, atI_0, atI_1, atI_2, lLc, lLc2, iSeq, iCall, fEnum, fZip, wipeD, putD, lSl, lRev, R.to_ok, R.bind_ok]
theorem ck_2 {x d : D} (h : F_Thing_mk c [.ref S.length, x, d] (S ++ [.ins c.Thing []]) = .exc c.InvalidThing (.str "table") (S ++ [.ins c.Thing []])) (a0 a2 a4 a5 a6 a7 a8 a9 a10 a11 a12 : Option D) : lb__law_checked_2 c [a0, some x, a2, some d, a4, a5, a6, a7, a8, a9, a10, a11, a12] S = .nx [a0, some x, a2, some d, a4, a5, a6, a7, a8, a9, a10, a11, a12] (S ++ [.ins c.Thing []]) := by
  have e := tried_at c S h
  have q := eq_table (S ++ [.ins c.Thing []])
  simp [lb__law_checked_2, dl__law_tried, e, q, runB, env0, sSeq, sRet, sRetN, sIf, sSet, sDrop, sNx, sPar, sAsg, sAttr, sPut, sRaise, Tg.asg, Tg.asgs, eAnd, eOr, eNot, eIf, tAnd, tOr, tNot, tV, tVB, tYes, eCall, eFn, eMk, eMt, eFld, eBM, aC, aN, eV, eC, Z.e1, Z.e2, eTup, eLV, eLN, eChain, eSl, fIsi, tyD, isK, anyK, tNames, rB, tru, fLen, fTuple, fAbs, fInt, fAll, fAny, fIsN, fNotN, fIsB, fNotB, fNeg, seqOf, lstOf, isL, fLt_ii, fLe_ii, fGt_ii, fGe_ii, fSub_ii, fPlus, fMod_ii, fMul_ii, fDiv_ii, fEq, fNe, eqD_int, fIx, atI_0, atI_1, atI_2, lLc, lLc2, iSeq, iCall, fEnum, fZip, wipeD, putD, lSl, lRev, R.to_ok, R.bind_ok]
def bad1 : List D := [.non, .tup [], .str "a", .tup [.non], .tup [.tup [.int 1]], .tup [.tup [.int 0, .int 1]], .tup [.tup [.int 17, .int 1]], .tup [.tup [.int 1, .bl true]], .tup (List.replicate 13 [.tup [.int 1, .int 2]]).flatten, .tup [.tup [.int 1, .int 2, .int 3]], .int 5]
theorem bad1_no : ∀ d ∈ bad1, NoC c d := by
  intro d hd
  simp only [bad1, List.mem_cons, List.not_mem_nil, or_false] at hd
  rcases hd with rfl | rfl | rfl | rfl | rfl | rfl | rfl | rfl | rfl | rfl | rfl
  · exact noC_seq c fun S => no_seq_non c S
  · exact noC_len c (by simp)
  · exact noC_seq c fun S => no_seq_str c S _
  · exact noC_one c fun S => row_no c S
  · exact noC_one c fun S => row_1 c S _
  · exact noC_one c fun S => row_01 c S
  · exact noC_one c fun S => row_17 c S
  · exact noC_one c fun S => row_1t c S
  · exact noC_len c (by simp)
  · exact noC_one c fun S => row_3 c S _ _ _
  · exact noC_seq c fun S => no_seq_int c S _
def P13e (a0 a1 a2 : Option D) (ρ : Env) : Prop := ∃ a3, ρ = [a0, a1, a2, a3, none, none, none, none, none, none, none, none, none]
theorem ck_l1 {T : Sto} (hS : Hp2 T S) (a0 a1 a2 a3 : Option D) : ∃ ρ' S', forI (.nm 3) (lb__law_checked_1 c) (fun _ => True) bad1 [a0, a1, a2, a3, none, none, none, none, none, none, none, none, none] S = .nx ρ' S' ∧ P13e a0 a1 a2 ρ' ∧ ∃ G, Hp2 (T ++ G) S' := by
  refine forI_keep (fun ρ S' => P13e a0 a1 a2 ρ ∧ ∃ G, Hp2 (T ++ G) S') bad1 _ S ⟨⟨a3, rfl⟩, [], by simpa using hS⟩ fun d hd ρ S1 hP => ?_
  obtain ⟨⟨b3, rfl⟩, G, hS1⟩ := hP
  have q := ck_1 c S1 (bad1_no c d hd) a0 a1 a2 none none none none none none none none none
  refine ⟨_, asg_nm .., _, _, .inl q, trivial, ⟨some d, rfl⟩, G ++ [.ins c.Thing []], ?_⟩
  have := hp_push hS1 [.ins c.Thing []]
  rwa [List.append_assoc] at this
section
variable {n m : Nat} {k : Cl} {f : Fl}
def bad2 (n m : Nat) (k : Cl) (f : Fl) (q : Nat) : List D := [.non, .tup [], .str "a", .int 7, .ref q, .tup (List.replicate 257 ((tabD n m k f).take 1)).flatten]
theorem bad2_no (o : Okk n m k f) {q : Nat} (hq : S[q]? = some (.dct [])) : ∀ d ∈ bad2 n m k f q, F_Thing_mk c [.ref S.length, .tup (callsD m k), d] (S ++ [.ins c.Thing []]) = .exc c.InvalidThing (.str "table") (S ++ [.ins c.Thing []]) := by
  intro d hd
  simp only [bad2, List.mem_cons, List.not_mem_nil, or_false] at hd
  rcases hd with rfl | rfl | rfl | rfl | rfl | rfl
  · exact noT_seq c o (fun S => no_seq_non c S) _ _
  · exact noT_len c o (by simp) _ _
  · exact noT_seq c o (fun S => no_seq_str c S _) _ _
  · exact noT_seq c o (fun S => no_seq_int c S _) _ _
  · exact mk_bad_table c _ o (isC_t m k) _ _ (.inl (no_seq_dct c _ (app_get hq)))
  · have h1 := o.n1
    have l : ((tabD n m k f).take 1).length = 1 := by
      have := tabD_len n m k f
      simp [this]
      omega
    have l2 : (List.replicate 257 ((tabD n m k f).take 1)).flatten.length = 257 := by
      rw [List.length_flatten, List.map_replicate, l]
      rfl
    exact noT_len c o (by omega) _ _
theorem ck_l2 {T : Sto} (o : Okk n m k f) (hS : Hp2 (T ++ [.dct []]) S) (a0 a2 a3 : Option D) : ∃ ρ' S', forI (.nm 3) (lb__law_checked_2 c) (fun _ => True) (bad2 n m k f (T.length + 2)) [a0, some (.tup (callsD m k)), a2, a3, none, none, none, none, none, none, none, none, none] S = .nx ρ' S' ∧ P13e a0 (some (.tup (callsD m k))) a2 ρ' ∧ ∃ G, Hp2 (T ++ .dct [] :: G) S' := by
  refine forI_keep (fun ρ S' => P13e a0 (some (.tup (callsD m k))) a2 ρ ∧ ∃ G, Hp2 (T ++ .dct [] :: G) S') _ _ S ⟨⟨a3, rfl⟩, [], hS⟩ fun d hd ρ S1 hP => ?_
  obtain ⟨⟨b3, rfl⟩, G, hS1⟩ := hP
  have q := ck_2 c S1 (bad2_no c S1 o (hp_get hS1) d hd) a0 a2 none none none none none none none none none
  refine ⟨_, asg_nm .., _, _, .inl q, trivial, ⟨some d, rfl⟩, G ++ [.ins c.Thing []], ?_⟩
  have := hp_push hS1 [.ins c.Thing []]
  rwa [sp_mid] at this
/-! ### the lots, calls and rows that are wrong -/
def rowL (m : Nat) (k : Cl) (f : Fl) (s : Nat) : List D := (List.range m).map fun i => .tup (valsD k f s i)
theorem rowL_len (s : Nat) : (rowL m k f s).length = m := by simp [rowL]
theorem rowL_at {s i : Nat} (hi : i < m) : (rowL m k f s)[i]? = some (.tup (valsD k f s i)) := by simp [rowL, hi]
def tabU (n m : Nat) (k : Cl) (f : Fl) (s : Nat) (y : D) : List D := upd (tabD n m k f) s y
theorem tabU_len {s : Nat} (hs : s < n) (y : D) : (tabU n m k f s y).length = n := by
  unfold tabU
  rw [upd_len _ (by rw [tabD_len]; exact hs), tabD_len]
theorem no_lot (o : Okk n m k f) {s i v : Nat} (hs : s < n) (hi : i < m) (hv : v < (k i).1) {w : D} (hw : NoL c (k i).2 n w) : NoT c (.tup (callsD m k)) (.tup (tabU n m k f s (.tup (upd (rowL m k f s) i (.tup (upd (valsD k f s i) v w)))))) (.tup [.int (s : Nat), .int (i : Nat), .int (v : Nat)]) := by
  have l1 : i < (rowL m k f s).length := by rw [rowL_len]; exact hi
  have l2 : v < (valsD k f s i).length := by rw [vals_len]; exact hv
  refine noT_at c o hs (bad_lot c o (isC_t m k) (.inl rfl) (tabU_len hs _) hs hi hv (.inl rfl) (by rw [upd_len _ l1, rowL_len]) (upd_at _ l1) (fun j w hj hw => ?_) (.inl rfl) (by rw [upd_len _ l2, vals_len]) (upd_at _ l2) (fun j hj => ?_) hw)
  · rw [upd_lt _ l1 hj, rowL_at (by omega)] at hw
    cases hw
    exact .inl rfl
  · rw [upd_lt _ l2 hj, vals_at s i j (by omega)]
theorem no_vals (o : Okk n m k f) {s i : Nat} (hs : s < n) (hi : i < m) {z : D} (hz : (∀ S, F_is_sequence c [z] S = .ok (.bl false) S) ∨ ∃ zs, Sq z zs ∧ zs.length ≠ (k i).1) : NoT c (.tup (callsD m k)) (.tup (tabU n m k f s (.tup (upd (rowL m k f s) i z)))) (.tup [.int (s : Nat), .int (i : Nat), .int (-1)]) := by
  have l1 : i < (rowL m k f s).length := by rw [rowL_len]; exact hi
  refine noT_at c o hs (bad_vals c o (isC_t m k) (.inl rfl) (tabU_len hs _) hs hi (.inl rfl) (by rw [upd_len _ l1, rowL_len]) (upd_at _ l1) (fun j w hj hw => ?_) hz)
  rw [upd_lt _ l1 hj, rowL_at (by omega)] at hw
  cases hw
  exact .inl rfl
theorem no_row (o : Okk n m k f) {s : Nat} (hs : s < n) {y : D} (hy : (∀ S, F_is_sequence c [y] S = .ok (.bl false) S) ∨ ∃ ys, Sq y ys ∧ ys.length ≠ m) : NoT c (.tup (callsD m k)) (.tup (tabU n m k f s y)) (.tup [.int (s : Nat), .int ((0 : Nat) : Int), .int (-1)]) := by
  refine noT_at c o hs (bad_row c (isC_t m k) o.m1 hy)
def odds (k n : Nat) (l : List (Nat × Nat)) : List D := [.tup [], .non, .lst (l.map pD), .tup (l.map pD ++ (l.take 1).map pD), .tup [.tup [.int k, .int 0]], .tup [.tup [.int 0, .int n]], .tup [.tup [.int 0]], .tup [.tup [.int 0, .int 0, .int 0]], .tup [.tup [.int (-1), .int 0]], .tup [.tup [.bl true, .int 0]], .tup [.tup [.int 0, .non]], .tup [.lst [.int 0, .int 0]]]
theorem odds_no {kk n : Nat} {l : List (Nat × Nat)} (hk : 0 < kk) (h : LotOk kk n l) : ∀ d ∈ odds kk n l, NoL c kk n d := by
  intro d hd
  simp only [odds, List.mem_cons, List.not_mem_nil, or_false] at hd
  rcases hd with rfl | rfl | rfl | rfl | rfl | rfl | rfl | rfl | rfl | rfl | rfl | rfl
  · exact noL_emp c kk n
  · exact noL_non c kk n
  · exact noL_lst c kk n _
  · exact noL_twice c kk n l h
  · exact noL_one c kk n fun S => noP_told c S kk n _
  · exact noL_one c kk n fun S => noP_many c S kk n hk
  · exact noL_one c kk n fun S => noP_1 c S kk n _
  · exact noL_one c kk n fun S => noP_3 c S kk n _ _ _
  · exact noL_one c kk n fun S => noP_neg c S kk n _
  · exact noL_one c kk n fun S => noP_a c S kk n (noI_bl c true) _
  · exact noL_one c kk n fun S => noP_b c S kk n (noI_non c) _
  · exact noL_one c kk n fun S => noP_lst c S kk n _
theorem like_wrong (a b d : Int) : F__law_like c 9 [.tup [.str "wrong", .tup [.int a, .int b, .int d]], .tup [.str "wrong", .tup [.int a, .int b, .int d]]] S = .ok (.bl true) S := by
  refine like_same c S 9 _ ⟨by simp, fun x hx => ?_⟩
  simp only [List.mem_cons, List.not_mem_nil, or_false] at hx
  rcases hx with rfl | rfl
  · show SeqAt.shaped (.str "wrong") = true
    decide +kernel
  · refine ⟨by simp, fun x hx => ?_⟩
    simp only [List.mem_cons, List.not_mem_nil, or_false] at hx
    rcases hx with rfl | rfl | rfl <;> trivial
end
end Z.k01
namespace Z.k01
open PySem L2 Z
variable (c : Ad) (S : Sto)
section
variable {n m : Nat} {k : Cl} {f : Fl}
theorem tried_like (a1 : D) (w : List D) (i1 i2 i3 : Int) {e1 e2 x y z : DE} {ρ : Env} (h : NoT c a1 (.tup w) (.tup [.int i1, .int i2, .int i3])) (h1 : e1 ρ S = .ok a1 S) (h2 : e2 ρ S = .ok (.tup w) S) (hx : ∀ S, x ρ S = .ok (.int i1) S) (hy : ∀ S, y ρ S = .ok (.int i2) S) (hz : ∀ S, z ρ S = .ok (.int i3) S) :
    eFn 2 (F__law_like c 9) (dl__law_like.drop 0) (aC (eFn 2 (F__law_tried c) (dl__law_tried.drop 0) (aC e1 (aC e2 aN))) (aC (eTup (aC (eC (.str "wrong")) (aC (eTup (aC x (aC y (aC z aN)))) aN))) aN)) ρ S = .ok (.bl true) (S ++ [.ins c.Thing []]) := by
  have q := tried_no c S h
  have l := like_wrong c (S ++ [.ins c.Thing []]) i1 i2 i3
  simp [eFn, aC, aN, h1, h2, dl__law_tried, dl__law_like, q, eTup, eC, hx, hy, hz, l]
theorem fRepT_ok {ds : List D} {j : Nat} (h0 : ds ≠ []) (h1 : 2 ≤ j) (h2 : j ≤ 1000) (h3 : ds.length ≤ 1000) : fRepT (.tup ds) (.int (j : Nat)) S = .ok (.tup (List.replicate j ds).flatten) S := by
  have g1 : (2 : Int) ≤ (j : Int) := by omega
  have g2 : (j : Int) ≤ 1000 := by omega
  simp [fRepT, h0, g1, g2, h3]
theorem e_rep13 : fRepT (.tup [.tup [.int 1, .int 2]]) (.int 13) S = .ok (.tup (List.replicate 13 [.tup [.int 1, .int 2]]).flatten) S := fRepT_ok S (j := 13) (by simp) (by omega) (by omega) (by simp)
theorem e_rep257 (o : Okk n m k f) : fRepT (.tup ((tabD n m k f).take 1)) (.int 257) S = .ok (.tup (List.replicate 257 ((tabD n m k f).take 1)).flatten) S := by
  have h1 := o.n1
  have l : ((tabD n m k f).take 1).length = 1 := by
    have := tabD_len n m k f
    simp [this]
    omega
  refine fRepT_ok S (j := 257) (fun e => ?_) (by omega) (by omega) (by omega)
  rw [e] at l
  simp at l
theorem cut1 {α : Type} (xs : List α) : cutA xs none (some (1 : Int)) = xs.take 1 := cutA_hi xs 1
theorem cut1d {α : Type} (xs : List α) : cutA xs (some (1 : Int)) none = xs.drop 1 := cutA_lo xs 1
abbrev En (m : Nat) (k : Cl) (n : Nat) (f : Fl) (a3 : Option D) (s i v : Nat) (a7 a8 a9 a10 a11 a12 : Option D) : Env := [some (.ref 1), some (.tup (callsD m k)), some (.tup (tabD n m k f)), a3, some (.int (s : Nat)), some (.int (i : Nat)), some (.int (v : Nat)), a7, a8, a9, a10, a11, a12]
theorem checked_i (o : Okk n m k f) {T : Sto} (hS : Hp2 T S) : ∃ G S', F__law_checked c [.ref 1, .tup (callsD m k), .tup (tabD n m k f)] S = .ok (.bl true) S' ∧ Hp2 (T ++ G) S' := by
  have n1 := o.n1
  have n2 := o.n2
  have m1 := o.m1
  have m2 := o.m2
  obtain ⟨ρ1, S1, e1, ⟨b3, rfl⟩, G1, h1⟩ := ck_l1 c S hS (some (.ref 1)) (some (.tup (callsD m k))) (some (.tup (tabD n m k f))) none
  have h1' := hp_push h1 [.dct []]
  have l1 := hp_len h1
  obtain ⟨ρ2, S2, e2, ⟨b3', rfl⟩, G2, h2⟩ := ck_l2 c _ o h1' (some (.ref 1)) (some (.tup (tabD n m k f))) b3
  obtain ⟨s, S3, hs, e3, h3⟩ := draw_i c _ n (by omega) (by omega) S2 h2
  obtain ⟨i, S4, hi, e4, h4⟩ := draw_i c _ m (by omega) (by omega) S3 h3
  have ki := o.k1 i hi
  obtain ⟨v, S5, hv, e5, h5⟩ := draw_i c _ (k i).1 (by omega) (by omega) S4 h4
  have hL := o.fo s i v hs hi hv
  have lL : (f s i v).length ≤ 2 := by
    rcases hL with ⟨p, h, _⟩ | ⟨p, q, h, _⟩ <;> rw [h] <;> simp
  obtain ⟨r6, S6, w, hw, e6, h6⟩ := pick_l c _ (odds (k i).2 n (f s i v)) (by simp [odds]) (by simp [odds]) S5 h5
  have hw' := odds_no c (by omega) hL w (List.mem_of_getElem? hw)
  have hx1 := no_lot c o hs hi hv hw'
  have h7 := hp_push h6 [.ins c.Thing []]
  obtain ⟨V, hV⟩ : ∃ V, V = valsD k f s i := ⟨_, rfl⟩
  have lV : V.length = (k i).1 := by rw [hV, vals_len]
  obtain ⟨r8, S8, z, hz, e8, h8⟩ := pick_l c _ [.non, .tup (V ++ V.take 1), .tup (V.drop 1), .str "ab", .int 3] (by simp) (by simp) (S6 ++ [.ins c.Thing []]) h7
  have hz' : (∀ S, F_is_sequence c [z] S = .ok (.bl false) S) ∨ ∃ zs, Sq z zs ∧ zs.length ≠ (k i).1 := by
    have := List.mem_of_getElem? hz
    simp only [List.mem_cons, List.not_mem_nil, or_false] at this
    rcases this with rfl | rfl | rfl | rfl | rfl
    · exact .inl fun S => no_seq_non c S
    · exact .inr ⟨_, .inl rfl, by simp [lV]; omega⟩
    · exact .inr ⟨_, .inl rfl, by simp [lV]; omega⟩
    · exact .inl fun S => no_seq_str c S _
    · exact .inl fun S => no_seq_int c S _
  have hx2 := no_vals c o hs hi hz'
  have h9 := hp_push h8 [.ins c.Thing []]
  obtain ⟨r10, S10, y, hy, e10, h10⟩ := pick_l c _ [.non, .tup (rowL m k f s ++ [.tup V]), .tup [], .int 7] (by simp) (by simp) (S8 ++ [.ins c.Thing []]) h9
  have hy' : (∀ S, F_is_sequence c [y] S = .ok (.bl false) S) ∨ ∃ ys, Sq y ys ∧ ys.length ≠ m := by
    have := List.mem_of_getElem? hy
    simp only [List.mem_cons, List.not_mem_nil, or_false] at this
    rcases this with rfl | rfl | rfl | rfl
    · exact .inl fun S => no_seq_non c S
    · exact .inr ⟨_, .inl rfl, by simp [rowL_len]⟩
    · exact .inr ⟨_, .inl rfl, by simp; omega⟩
    · exact .inl fun S => no_seq_int c S _
  have hx3 := no_row c o hs hy'
  have h11 := hp_push h10 [.ins c.Thing []]
  refine ⟨_, _, ?_, by simp only [List.append_assoc, List.cons_append] at h11; exact h11⟩
  show runB 13 (den__law_checked c) _ S = _
  refine run_rt ?_
  unfold den__law_checked
  show sSeq _ _ [some (.ref 1), some (.tup (callsD m k)), some (.tup (tabD n m k f)), none, none, none, none, none, none, none, none, none, none] S = _
  have e13 := e_rep13 S
  have e257 := e_rep257 (S1 ++ [.dct []]) o
  obtain ⟨U, hU⟩ : ∃ U, U = (List.replicate 257 ((tabD n m k f).take 1)).flatten := ⟨_, rfl⟩
  obtain ⟨U1, hU1⟩ : ∃ U, U = (List.replicate 13 [D.tup [.int 1, .int 2]]).flatten := ⟨_, rfl⟩
  have b1 : bad1 = [.non, .tup [], .str "a", .tup [.non], .tup [.tup [.int 1]], .tup [.tup [.int 0, .int 1]], .tup [.tup [.int 17, .int 1]], .tup [.tup [.int 1, .bl true]], .tup U1, .tup [.tup [.int 1, .int 2, .int 3]], .int 5] := by
    rw [hU1]
    rfl
  have b2 : bad2 n m k f ((T ++ G1).length + 2) = [.non, .tup [], .str "a", .int 7, .ref ((T ++ G1).length + 2), .tup U] := by
    rw [hU]
    rfl
  rw [← hU] at e257
  rw [← hU1] at e13
  rw [b1] at e1
  rw [b2] at e2
  clear hU hU1 b1 b2
  refine Eq.trans (seq_nx (a := sFor (.nm 3) _ (lb__law_checked_1 c)) (Eq.trans (for_nx (chk := fun _ => True) ?_) e1)) ?_
  · refine iseq_lv ?_
    simp only [aC, aN, eC, eTup, Z.e2, R.bind_ok, e13]
  refine Eq.trans (seq_nx (a := sFor (.nm 3) _ (lb__law_checked_2 c)) (Eq.trans (for_nx (chk := fun _ => True) ?_) e2)) ?_
  · refine iseq_lv ?_
    simp [aC, aN, eC, eTup, Z.e2, eDct, eSl, eV, oN, oS, fSl, cut1, e257, l1]
  have tl : (tabD n m k f).length = n := tabD_len n m k f
  have cl : (callsD m k).length = m := callsD_len m k
  have ts : (tabD n m k f)[s]? = some (.tup (rowL m k f s)) := tabD_at hs
  have rs : (rowL m k f s)[i]? = some (.tup V) := by rw [hV]; exact rowL_at hi
  have cs : (callsD m k)[i]? = some (.tup [.int (k i).1, .int (k i).2]) := callsD_at hi
  have vs : V[v]? = some (lotD (f s i v)) := by rw [hV]; exact vals_at s i v hv
  rw [← hV] at hx1
  clear hV
  rw [seq_par (d := .int (s : Nat)) (e := .int (i : Nat)) (S1 := S3) (S' := S4) (by simp [eFn, aC, aN, eV, eCall, fLen, seqOf, dl__law_draw, tl, e3]) (by simp [eFn, aC, aN, eV, eCall, fLen, seqOf, dl__law_draw, cl, e4])]
  rw [seq_par (d := .int (v : Nat)) (e := .int (n : Nat)) (S1 := S5) (S' := S5) (by simp [eFn, aC, aN, eV, eC, Z.e2, fIx, atI_nat, atI_0, cs, dl__law_draw, e5]) (by simp [eCall, aC, aN, eV, fLen, seqOf, tl])]
  show sSeq _ _ [some (.ref 1), some (.tup (callsD m k)), some (.tup (tabD n m k f)), b3', some (.int (s : Nat)), some (.int (i : Nat)), some (.int (v : Nat)), some (.int (n : Nat)), none, none, none, none, none] S5 = _
  rw [seq_set (d := lotD (f s i v)) (S' := S5) (by simp [Z.e2, eV, fIx, atI_nat, ts, rs, vs])]
  have l3 : (f s i v).length + min 1 (f s i v).length ≤ 16777216 := by omega
  rw [seq_set (d := .lst (odds (k i).2 n (f s i v))) (S' := S5) (by
    simp [eLV, aC, aN, eTup, eC, eV, lList, gList, listD, seqOf, lotD, Z.e2, Z.e1, fNeg, fIx, atI_nat, atI_1, cs, eSl, oN, oS, fSl, cut1, fPlus, odds, l3])]
  rw [seq_set (d := .tup V) (S' := S5) (by simp [Z.e2, eV, fIx, atI_nat, ts, rs])]
  show sSeq _ _ [some (.ref 1), some (.tup (callsD m k)), some (.tup (tabD n m k f)), b3', some (.int (s : Nat)), some (.int (i : Nat)), some (.int (v : Nat)), some (.int (n : Nat)), some (lotD (f s i v)), some (.lst (odds (k i).2 n (f s i v))), some (.tup V), none, none] S5 = _
  have iV : v < V.length := by omega
  have iR : i < (rowL m k f s).length := by rw [rowL_len]; exact hi
  have iT : s < (tabD n m k f).length := by omega
  obtain ⟨OD, hO⟩ : ∃ OD, OD = odds (k i).2 n (f s i v) := ⟨_, rfl⟩
  rw [← hO] at e6 ⊢
  clear hO
  obtain ⟨RL, hR⟩ : ∃ RL, RL = rowL m k f s := ⟨_, rfl⟩
  have lR : RL.length = m := by rw [hR, rowL_len]
  rw [← hR] at hx1 hx2 ts rs iR e10
  clear hR
  rw [seq_set (d := .tup (upd RL i (.tup (upd V v w)))) (S' := S6) (e_upd (by simp [Z.e2, eV, fIx, atI_nat, ts]) (by simp [Z.e2, eV, fIx, atI_nat, ts]) (fun S => by simp [eV]) (e_upd (by simp [eV]) (by simp [eV]) (fun S => by simp [eV]) (by simp [eFn, aC, aN, eV, dl__law_pick, e6]) iV (by omega)) iR (by omega))]
  rw [seq_set (d := .tup (tabU n m k f s (.tup (upd RL i (.tup (upd V v w)))))) (S' := S6) (e_upd (by simp [eV]) (by simp [eV]) (fun S => by simp [eV]) (by simp [eV]) iT (by omega))]
  show sSeq _ _ [some (.ref 1), some (.tup (callsD m k)), some (.tup (tabD n m k f)), b3', some (.int (s : Nat)), some (.int (i : Nat)), some (.int (v : Nat)), some (.int (n : Nat)), some (lotD (f s i v)), some (.lst OD), some (.tup V), some (.tup (upd RL i (.tup (upd V v w)))), some (.tup (tabU n m k f s (.tup (upd RL i (.tup (upd V v w))))))] S6 = _
  have t1 := tried_like c S6 _ _ _ _ _ (e1 := eV 1) (e2 := eV 12) (x := eV 4) (y := eV 5) (z := eV 6) (ρ := [some (.ref 1), some (.tup (callsD m k)), some (.tup (tabD n m k f)), b3', some (.int (s : Nat)), some (.int (i : Nat)), some (.int (v : Nat)), some (.int (n : Nat)), some (lotD (f s i v)), some (.lst OD), some (.tup V), some (.tup (upd RL i (.tup (upd V v w)))), some (.tup (tabU n m k f s (.tup (upd RL i (.tup (upd V v w))))))]) hx1 (by simp [eV]) (by simp [eV]) (fun S => by simp [eV]) (fun S => by simp [eV]) (fun S => by simp [eV])
  rw [seq_skip (S' := S6 ++ [.ins c.Thing []]) (by simp only [tNot, tV, t1, R.bind_ok, tru]; rfl)]
  have c1 : fPlus (.tup V) (.tup (V.take 1)) (S6 ++ [.ins c.Thing []]) = .ok (.tup (V ++ V.take 1)) (S6 ++ [.ins c.Thing []]) := by
    simp only [fPlus]
    rw [if_pos (by simp; omega)]
  rw [seq_set (d := .tup (upd RL i z)) (S' := S8) (e_upd (by simp [Z.e2, eV, fIx, atI_nat, ts]) (by simp [Z.e2, eV, fIx, atI_nat, ts]) (fun S => by simp [eV]) (by simp [eFn, aC, aN, eV, eLV, eC, eSl, oN, oS, fSl, Z.e2, cut1, cut1d, c1, dl__law_pick, e8, -List.drop_one]) iR (by omega))]
  rw [seq_set (d := .tup (tabU n m k f s (.tup (upd RL i z)))) (S' := S8) (e_upd (by simp [eV]) (by simp [eV]) (fun S => by simp [eV]) (by simp [eV]) iT (by omega))]
  show sSeq _ _ [some (.ref 1), some (.tup (callsD m k)), some (.tup (tabD n m k f)), b3', some (.int (s : Nat)), some (.int (i : Nat)), some (.int (v : Nat)), some (.int (n : Nat)), some (lotD (f s i v)), some (.lst OD), some (.tup V), some (.tup (upd RL i z)), some (.tup (tabU n m k f s (.tup (upd RL i z))))] S8 = _
  have t2 := tried_like c S8 _ _ _ _ _ (e1 := eV 1) (e2 := eV 12) (x := eV 4) (y := eV 5) (z := Z.e1 fNeg (eC (.int 1))) (ρ := [some (.ref 1), some (.tup (callsD m k)), some (.tup (tabD n m k f)), b3', some (.int (s : Nat)), some (.int (i : Nat)), some (.int (v : Nat)), some (.int (n : Nat)), some (lotD (f s i v)), some (.lst OD), some (.tup V), some (.tup (upd RL i z)), some (.tup (tabU n m k f s (.tup (upd RL i z))))]) hx2 (by simp [eV]) (by simp [eV]) (fun S => by simp [eV]) (fun S => by simp [eV]) (fun S => by simp [Z.e1, eC, fNeg])
  rw [seq_skip (S' := S8 ++ [.ins c.Thing []]) (by simp only [tNot, tV, t2, R.bind_ok, tru]; rfl)]
  have c2 : fPlus (.tup RL) (.tup [.tup V]) (S8 ++ [.ins c.Thing []]) = .ok (.tup (RL ++ [.tup V])) (S8 ++ [.ins c.Thing []]) := by
    simp only [fPlus]
    rw [if_pos (by simp; omega)]
  rw [seq_set (d := y) (S' := S10) (by simp [eFn, aC, aN, eV, eLV, eC, eTup, Z.e2, fIx, atI_nat, ts, c2, dl__law_pick, e10])]
  refine ret_rt ?_
  exact tried_like c S10 _ _ _ _ _ hx3 (by simp [eV]) (e_upd (by simp [eV]) (by simp [eV]) (fun S => by simp [eV]) (by simp [eV]) iT (by omega)) (fun S => by simp [eV]) (fun S => by simp [eC]) (fun S => by simp [Z.e1, eC, fNeg])
end
end Z.k01
namespace Z.k01
open PySem L2 Z
variable (c : Ad) (S : Sto)
section
variable {n m t : Nat} {k : Cl} {f : Fl}
/-! ### all calls, put together -/
def cvTo (k : Cl) (j : Nat) : List D := (List.range j).flatMap fun (i : Nat) => (List.range (k i).1).map fun (v : Nat) => .tup [.int i, .int v]
theorem cvTo_all : cvTo k m = cvD m k := cvD_eq.symm
theorem cvTo_succ (j : Nat) : cvTo k (j + 1) = cvTo k j ++ (List.range (k j).1).map fun (v : Nat) => .tup [.int j, .int v] := by
  unfold cvTo
  rw [List.range_succ, List.flatMap_append]
  simp
theorem cvTo_len (o : Okk n m k f) : ∀ j, j ≤ m → (cvTo k j).length ≤ 16 * j
  | 0, _ => by simp [cvTo]
  | j + 1, h => by
    have h1 := cvTo_len o j (by omega)
    have h2 := o.k1 j (by omega)
    rw [cvTo_succ, List.length_append, List.length_map, List.length_range]
    omega
theorem lw_1 (o : Okk n m k f) {i : Nat} (hi : i < m) (a0 a1 a2 a4 a5 a6 a9 a10 a11 a12 a13 a14 a15 a16 a17 a18 a19 : Option D) : lb_law_1 c [a0, a1, a2, some (.tup (callsD m k)), a4, a5, a6, some (.lst (cvTo k i)), some (.int (i : Nat)), a9, a10, a11, a12, a13, a14, a15, a16, a17, a18, a19] S = .nx [a0, a1, a2, some (.tup (callsD m k)), a4, a5, a6, some (.lst (cvTo k (i + 1))), some (.int (i : Nat)), a9, a10, a11, a12, a13, a14, a15, a16, a17, a18, a19] S := by
  have ki := o.k1 i hi
  have cs : (callsD m k)[i]? = some (.tup [.int (k i).1, .int (k i).2]) := callsD_at hi
  have hl := cvTo_len o i (by omega)
  have m2 := o.m2
  have g0 : iR1 (Z.e2 fIx (Z.e2 fIx (eV 3) (eV 8)) (eC (.int 0))) [a0, a1, a2, some (.tup (callsD m k)), a4, a5, a6, some (.lst (cvTo k i)), some (.int (i : Nat)), a9, a10, a11, a12, a13, a14, a15, a16, a17, a18, a19] S = .ok (iRow 0 (k i).1, fun _ => True) S := iR1_nat (by simp [Z.e2, eV, eC, fIx, atI_nat, cs, atI_0]) (by omega)
  have g1 : lcI (.nm 9) (fun _ => True) tYes (eTup (aC (eV 8) (aC (eV 9) aN))) [a0, a1, a2, some (.tup (callsD m k)), a4, a5, a6, some (.lst (cvTo k i)), some (.int (i : Nat)), none, a10, a11, a12, a13, a14, a15, a16, a17, a18, a19] (iRow 0 (k i).1) S = .ok ((List.range (k i).1).map fun (v : Nat) => .tup [.int i, .int v]) S := lcI_range (fun (v : Nat) => .tup [.int i, .int v]) trivial fun v hv => by
    simp [eTup, aC, aN, eV]
  have g2 : (iRow 0 (k i).1).length ≤ 16777216 := by rw [iRow_len]; omega
  have g3 : (cvTo k i).length + ((List.range (k i).1).map fun (v : Nat) => D.tup [.int i, .int v]).length ≤ 16777216 := by rw [List.length_map, List.length_range]; omega
  rw [cvTo_succ]
  obtain ⟨W, hW⟩ : ∃ W : List D, W = (List.range (k i).1).map fun (v : Nat) => .tup [.int i, .int v] := ⟨_, rfl⟩
  rw [← hW] at g1 g3 ⊢
  simp [lb_law_1, sSet, eLV, lCat, eV, lLc, g0, g1, g2, wipeD, gCat, lstH, g3]
theorem lk_int (q : Nat) (i : Int) : Lk (q + 1) (.int i) := trivial
theorem lk_pD (q : Nat) (p : Nat × Nat) : Lk (q + 2) (pD p) := ⟨by simp, fun x hx => by
  simp only [List.mem_cons, List.not_mem_nil, or_false] at hx
  rcases hx with rfl | rfl <;> exact lk_int q _⟩
theorem lk_lot (q : Nat) {l : List (Nat × Nat)} (h : l.length ≤ 1000) : Lk (q + 3) (lotD l) := ⟨by simpa using h, fun x hx => by
  obtain ⟨p, _, rfl⟩ := List.mem_map.mp hx
  exact lk_pD q p⟩
theorem lot_le {kk n : Nat} {l : List (Nat × Nat)} (h : LotOk kk n l) : 1 ≤ l.length ∧ l.length ≤ 2 := by
  rcases h with ⟨p, rfl, _⟩ | ⟨p, q, rfl, _⟩ <;> simp
theorem lk_calls (o : Okk n m k f) (q : Nat) : Lk (q + 3) (.tup (callsD m k)) := ⟨by have := o.m2; rw [callsD_len]; omega, fun x hx => by
  obtain ⟨i, hi⟩ := mem_get hx
  obtain ⟨_, rfl⟩ := callsD_get hi
  exact lk_pD q (k i)⟩
theorem lk_tab (o : Okk n m k f) (q : Nat) : Lk (q + 6) (.tup (tabD n m k f)) := ⟨by have := o.n2; rw [tabD_len]; omega, fun x hx => by
  obtain ⟨s, hs, rfl⟩ := List.mem_map.mp hx
  have hs := List.mem_range.mp hs
  refine ⟨by have := o.m2; simp; omega, fun x hx => ?_⟩
  obtain ⟨i, hi, rfl⟩ := List.mem_map.mp hx
  have hi := List.mem_range.mp hi
  refine ⟨by have := o.k1 i hi; rw [vals_len]; omega, fun x hx => ?_⟩
  obtain ⟨v, hv, rfl⟩ := List.mem_map.mp hx
  have hv := List.mem_range.mp hv
  exact lk_lot q (by have := lot_le (o.fo s i v hs hi hv); omega)⟩
theorem lk_cv (o : Okk n m k f) (q : Nat) : Lk (q + 3) (.tup (cvD m k)) := ⟨by have := cv_len (f := f) o; rw [cvD_pD, List.length_map]; omega, fun x hx => by
  rw [cvD_pD] at hx
  obtain ⟨p, _, rfl⟩ := List.mem_map.mp hx
  exact lk_pD q p⟩
theorem lk_nat (q : Nat) {xs : List Nat} (h : xs.length ≤ 1000) : Lk (q + 2) (.tup (natD xs)) := ⟨by rw [natD_len]; exact h, fun x hx => by
  obtain ⟨a, _, rfl⟩ := List.mem_map.mp hx
  exact lk_int q _⟩
/-! ### all lots, put together -/
theorem lw_2 (o : Okk n m k f) (B G : Sto) (L : List (List (Nat × Nat))) (hL : L.length ≤ 1000000) (ht : S[t]? = some (thing c n m k f)) (hB : S[B.length + 2]? = some (.lst (L.map lotD))) {s i v : Nat} (hs : s < n) (hi : i < m) (hv : v < (k i).1) (a0 a1 a2 a3 a5 a7 a12 a13 a14 a15 a16 a17 a18 a19 : Option D) (hne : t ≠ B.length + 2) :
    lb_law_2 c [a0, a1, a2, a3, some (.tup (tabD n m k f)), a5, some (.ref t), a7, some (.int (i : Nat)), some (.int (v : Nat)), some (.ref (B.length + 2)), some (.int (s : Nat)), a12, a13, a14, a15, a16, a17, a18, a19] S = .nx [a0, a1, a2, a3, some (.tup (tabD n m k f)), a5, some (.ref t), a7, some (.int (i : Nat)), some (.int (v : Nat)), some (.ref (B.length + 2)), some (.int (s : Nat)), a12, a13, a14, a15, a16, a17, a18, a19] (S.set (B.length + 2) (.lst ((L ++ [f s i v]).map lotD))) := by
  obtain ⟨r, g1, u, g2, g3⟩ := lot_at (f := f) hs hi hv
  have hF := o.fo s i v hs hi hv
  have hl := lot_le hF
  have ht' : (S.set (B.length + 2) (.lst ((L ++ [f s i v]).map lotD)))[t]? = some (thing c n m k f) := by
    rw [List.getElem?_set_ne (Ne.symm hne)]
    exact ht
  have e := pairs_i c _ ht' s i v hs hi hv
  have lk := like_same c (S.set (B.length + 2) (.lst ((L ++ [f s i v]).map lotD))) 9 (lotD (f s i v)) (lk_lot 6 (by omega))
  have d1 : ∀ ρ S, eV 4 ρ S = .ok (.tup (tabD n m k f)) S → eV 11 ρ S = .ok (.int (s : Nat)) S → eV 8 ρ S = .ok (.int (i : Nat)) S → eV 9 ρ S = .ok (.int (v : Nat)) S → (Z.e2 fIx (Z.e2 fIx (Z.e2 fIx (eV 4) (eV 11)) (eV 8)) (eV 9)) ρ S = .ok (lotD (f s i v)) S := fun ρ S x1 x2 x3 x4 => by
    simp [Z.e2, x1, x2, x3, x4, fIx, atI_nat, g1, g2, g3]
  unfold lb_law_2
  rw [seq_nx (drop_app (S1 := S) (x := lotD (f s i v)) (q := B.length + 2) (by simp [eV]) hB (d1 _ _ (by simp [eV]) (by simp [eV]) (by simp [eV]) (by simp [eV])) hB (by rw [List.length_map]; omega))]
  have em : (L.map lotD) ++ [lotD (f s i v)] = (L ++ [f s i v]).map lotD := by simp
  rw [em]
  obtain ⟨S', hS'⟩ : ∃ S', S' = S.set (B.length + 2) (.lst ((L ++ [f s i v]).map lotD)) := ⟨_, rfl⟩
  rw [← hS'] at e lk ⊢
  rw [if_f (S' := S') ?_]
  · rfl
  · have d2 := d1 [a0, a1, a2, a3, some (.tup (tabD n m k f)), a5, some (.ref t), a7, some (.int (i : Nat)), some (.int (v : Nat)), some (.ref (B.length + 2)), some (.int (s : Nat)), a12, a13, a14, a15, a16, a17, a18, a19] S' (by simp [eV]) (by simp [eV]) (by simp [eV]) (by simp [eV])
    simp only [tNot, tV, eFn, aC, aN, dl__law_like, dl_pairs_of, R.bind_ok, List.drop_nil, List.append_nil, List.length_cons, List.length_nil, d2]
    simp [eV, e, lk, tru, d2]
end
end Z.k01
namespace Z.k01
open PySem L2 Z
variable (c : Ad) (S : Sto)
section
variable {n m t : Nat} {k : Cl} {f : Fl}
theorem lw_3 (o : Okk n m k f) {B : Sto} {S : Sto} {L : List (List (Nat × Nat))} (hS : Hp2 (B ++ [.lst (L.map lotD)]) S) (hB : B[t]? = some (thing c n m k f)) (hL : L.length + 192 ≤ 1000000) {s : Nat} (hs : s < n) (a0 a1 a2 a3 a5 a8 a9 a12 a13 a14 a15 a16 a17 a18 a19 : Option D) :
    ∃ S' b8 b9, lb_law_3 c [a0, a1, a2, a3, some (.tup (tabD n m k f)), a5, some (.ref (t + 2)), some (.lst (cvD m k)), a8, a9, some (.ref (B.length + 2)), some (.int (s : Nat)), a12, a13, a14, a15, a16, a17, a18, a19] S = .nx [a0, a1, a2, a3, some (.tup (tabD n m k f)), a5, some (.ref (t + 2)), some (.lst (cvD m k)), b8, b9, some (.ref (B.length + 2)), some (.int (s : Nat)), a12, a13, a14, a15, a16, a17, a18, a19] S' ∧ Hp2 (B ++ [.lst ((L ++ (cvN m k).map fun p => f s p.1 p.2).map lotD)]) S' := by
  have hcv := cv_len (f := f) o
  have hl : (cvD m k).length = (cvN m k).length := by rw [cvD_pD, List.length_map]
  have tB := get_lt hB
  obtain ⟨ρ', S', h1, b8, b9, rfl, h2⟩ := forI_idx (tg := .tp [(.nm 8), (.nm 9)]) (chk := fun _ => True) (b := lb_law_2 c) (fun j ρ S' => ∃ b8 b9, ρ = [a0, a1, a2, a3, some (.tup (tabD n m k f)), a5, some (.ref (t + 2)), some (.lst (cvD m k)), b8, b9, some (.ref (B.length + 2)), some (.int (s : Nat)), a12, a13, a14, a15, a16, a17, a18, a19] ∧ Hp2 (B ++ [.lst ((L ++ ((cvN m k).take j).map fun p => f s p.1 p.2).map lotD)]) S') (cvD m k) [a0, a1, a2, a3, some (.tup (tabD n m k f)), a5, some (.ref (t + 2)), some (.lst (cvD m k)), a8, a9, some (.ref (B.length + 2)), some (.int (s : Nat)), a12, a13, a14, a15, a16, a17, a18, a19] S ⟨a8, a9, rfl, by simpa using hS⟩ fun j d hd ρ S1 hP => by
    obtain ⟨b8, b9, rfl, h1⟩ := hP
    rw [cvD_pD, List.getElem?_map] at hd
    obtain ⟨p, hp, rfl⟩ := Option.map_eq_some_iff.mp hd
    obtain ⟨p1, p2⟩ := cvN_mem (List.mem_of_getElem? hp)
    have hj := get_lt hp
    have q := lw_2 c S1 o B [] (L ++ ((cvN m k).take j).map fun p => f s p.1 p.2) (by simp; omega) (hp_at h1 (app_get hB)) (hp_get h1) hs p1 p2 a0 a1 a2 a3 a5 (some (.lst (cvD m k))) a12 a13 a14 a15 a16 a17 a18 a19 (by omega)
    refine ⟨_, asg_p2 .., _, _, .inl (by simpa using q), trivial, some (.int (p.1 : Nat)), some (.int (p.2 : Nat)), rfl, ?_⟩
    have := hp_set h1 (.lst (((L ++ ((cvN m k).take j).map fun p => f s p.1 p.2) ++ [f s p.1 p.2]).map lotD))
    rw [List.take_add_one, hp]
    simpa using this
  refine ⟨S', b8, b9, ?_, ?_⟩
  · unfold lb_law_3
    rw [for_nx (ds := cvD m k) (chk := fun _ => True) (S1 := S) (by simp [iSeq, eV])]
    exact h1
  · rwa [hl, List.take_length] at h2
def lotsTo (m : Nat) (k : Cl) (f : Fl) (j : Nat) : List (List (Nat × Nat)) := (List.range j).flatMap fun s => (cvN m k).map fun p => f s p.1 p.2
theorem lotsTo_succ (j : Nat) : lotsTo m k f (j + 1) = lotsTo m k f j ++ (cvN m k).map fun p => f j p.1 p.2 := by
  unfold lotsTo
  rw [List.range_succ, List.flatMap_append]
  simp
theorem lotsTo_len (o : Okk n m k f) : ∀ j, (lotsTo m k f j).length ≤ 192 * j
  | 0 => by simp [lotsTo]
  | j + 1 => by
    have h1 := lotsTo_len o j
    have h2 := cv_len (f := f) o
    rw [lotsTo_succ, List.length_append, List.length_map]
    omega
theorem lw_lots (o : Okk n m k f) {B : Sto} {S : Sto} (hS : Hp2 (B ++ [.lst []]) S) (hB : B[t]? = some (thing c n m k f)) (a0 a1 a2 a3 a5 a8 a9 a11 a12 a13 a14 a15 a16 a17 a18 a19 : Option D) :
    ∃ S' b8 b9 b11, forI (.nm 11) (lb_law_3 c) (fun _ => True) (iRow 0 n) [a0, a1, a2, a3, some (.tup (tabD n m k f)), a5, some (.ref (t + 2)), some (.lst (cvD m k)), a8, a9, some (.ref (B.length + 2)), a11, a12, a13, a14, a15, a16, a17, a18, a19] S = .nx [a0, a1, a2, a3, some (.tup (tabD n m k f)), a5, some (.ref (t + 2)), some (.lst (cvD m k)), b8, b9, some (.ref (B.length + 2)), b11, a12, a13, a14, a15, a16, a17, a18, a19] S' ∧ Hp2 (B ++ [.lst ((lotsN n m k f).map lotD)]) S' := by
  have n2 := o.n2
  obtain ⟨ρ', S', h1, b8, b9, b11, rfl, h2⟩ := forI_idx (tg := .nm 11) (chk := fun _ => True) (b := lb_law_3 c) (fun j ρ S' => ∃ b8 b9 b11, ρ = [a0, a1, a2, a3, some (.tup (tabD n m k f)), a5, some (.ref (t + 2)), some (.lst (cvD m k)), b8, b9, some (.ref (B.length + 2)), b11, a12, a13, a14, a15, a16, a17, a18, a19] ∧ Hp2 (B ++ [.lst ((lotsTo m k f j).map lotD)]) S') (iRow 0 n) [a0, a1, a2, a3, some (.tup (tabD n m k f)), a5, some (.ref (t + 2)), some (.lst (cvD m k)), a8, a9, some (.ref (B.length + 2)), a11, a12, a13, a14, a15, a16, a17, a18, a19] S ⟨a8, a9, a11, rfl, hS⟩ fun j d hd ρ S1 hP => by
    obtain ⟨b8, b9, b11, rfl, h1⟩ := hP
    have hj := get_lt hd
    rw [iRow_len] at hj
    rw [iRow_get 0 n j hj] at hd
    cases hd
    have hl := lotsTo_len o j
    obtain ⟨S2, c8, c9, q1, q2⟩ := lw_3 c o h1 hB (by omega) hj a0 a1 a2 a3 a5 b8 b9 a12 a13 a14 a15 a16 a17 a18 a19
    rw [← lotsTo_succ] at q2
    have e0 : (0 : Int) + (j : Nat) = (j : Nat) := by omega
    rw [e0]
    exact ⟨_, asg_nm .., _, _, .inl (by simpa using q1), trivial, c8, c9, some (.int (j : Nat)), rfl, q2⟩
  rw [iRow_len] at h2
  exact ⟨S', b8, b9, b11, h1, h2⟩
theorem max_sure (o : Okk n m k f) : ∃ x r, (lotsN n m k f).map (fun l => (l.length : Int)) = x :: r ∧ decide (maxI x r = 1) = sureB n m k f := by
  have all1 : ∀ l ∈ lotsN n m k f, 1 ≤ l.length := fun l hl => by
    unfold lotsN at hl
    obtain ⟨s, hs, hl⟩ := List.mem_flatMap.mp hl
    obtain ⟨p, hp, rfl⟩ := List.mem_map.mp hl
    obtain ⟨p1, p2⟩ := cvN_mem hp
    exact (lot_le (o.fo s p.1 p.2 (List.mem_range.mp hs) p1 p2)).1
  have k0 := o.k1 0 o.m1
  have mem0 : f 0 0 0 ∈ lotsN n m k f := List.mem_flatMap.mpr ⟨0, List.mem_range.mpr o.n1, List.mem_map.mpr ⟨(0, 0), mem_cvN o.m1 (by omega), rfl⟩⟩
  cases hL : lotsN n m k f with
  | nil => rw [hL] at mem0; cases mem0
  | cons l L =>
    refine ⟨(l.length : Int), L.map fun l => (l.length : Int), rfl, ?_⟩
    rw [hL] at all1
    unfold sureB
    rw [hL, Bool.eq_iff_iff, decide_eq_true_eq, List.all_eq_true]
    obtain ⟨g1, g2⟩ := maxI_ge (L.map fun l => (l.length : Int)) (l.length : Int)
    constructor
    · intro h x hx
      have h1 := all1 x hx
      rw [decide_eq_true_eq]
      rcases List.mem_cons.mp hx with rfl | hx
      · omega
      · have := g2 _ (List.mem_map.mpr ⟨x, hx, rfl⟩)
        omega
    · intro h
      rcases maxI_mem (L.map fun l => (l.length : Int)) (l.length : Int) with e | e
      · have := of_decide_eq_true (h l (List.mem_cons_self ..))
        omega
      · obtain ⟨x, hx, e⟩ := List.mem_map.mp e
        have := of_decide_eq_true (h x (List.mem_cons_of_mem _ hx))
        omega
/-! ### picked calls -/
def picksC (m : Nat) : List D := [.int 0, .int ((m : Int) - 1), .int m, .int (-1), .non, .bl true, .str "0", .tup [.int 0]]
def picksV : List D := [.int 0, .int 1, .int 2, .int (-1), .non, .bl true, .str "0"]
noncomputable def dueE (c : Ad) : DE := eAnd (eCall (fIsi c.cs) (aC (eV 8) (aC (eC (.ty "int")) aN))) (eAnd (eNot (eCall (fIsi c.cs) (aC (eV 8) (aC (eC (.ty "bool")) aN)))) (eAnd (eCall (fIsi c.cs) (aC (eV 9) (aC (eC (.ty "int")) aN))) (eAnd (eNot (eCall (fIsi c.cs) (aC (eV 9) (aC (eC (.ty "bool")) aN)))) (Z.e2 fIn (eTup (aC (eV 8) (aC (eV 9) aN))) (eV 7)))))
theorem due_is (ht : S[t]? = some (thing c n m k f)) {x y : D} (hx : x ∈ picksC m) (hy : y ∈ picksV) (a0 a1 a2 a3 a4 a5 a6 a10 a11 a12 a13 a14 a15 a16 a17 a18 a19 : Option D) :
    ∃ b : Bool, dueE c [a0, a1, a2, a3, a4, a5, a6, some (.lst (cvD m k)), some x, some y, a10, a11, a12, a13, a14, a15, a16, a17, a18, a19] S = .ok (.bl b) S ∧ F_is_call c [.ref t, x, y] S = .ok (.bl b) S := by
  have main : ∀ i, x = .int i → ∀ y ∈ picksV, ∃ b : Bool, dueE c [a0, a1, a2, a3, a4, a5, a6, some (.lst (cvD m k)), some x, some y, a10, a11, a12, a13, a14, a15, a16, a17, a18, a19] S = .ok (.bl b) S ∧ F_is_call c [.ref t, x, y] S = .ok (.bl b) S := by
    intro i e y hy
    subst e
    have ii : ∀ v, ∃ b : Bool, dueE c [a0, a1, a2, a3, a4, a5, a6, some (.lst (cvD m k)), some (.int i), some (.int v), a10, a11, a12, a13, a14, a15, a16, a17, a18, a19] S = .ok (.bl b) S ∧ F_is_call c [.ref t, .int i, .int v] S = .ok (.bl b) S := fun v => by
      refine ⟨ic m k (.int i) (.int v), ?_, is_call_i c S ht i v⟩
      have q := in_pairs S (cvN m k) i v
      rw [cv_any, ← cvD_pD] at q
      simp [dueE, q, runB, env0, sSeq, sRet, sRetN, sIf, sSet, sDrop, sNx, sPar, sAsg, sAttr, sPut, sRaise, Tg.asg, Tg.asgs, eAnd, eOr, eNot, eIf, tAnd, tOr, tNot, tV, tVB, tYes, eCall, eFn, eMk, eMt, eFld, eBM, aC, aN, eV, eC, Z.e1, Z.e2, eTup, eLV, eLN, eChain, eSl, fIsi, tyD, isK, anyK, tNames, rB, tru, fLen, fTuple, fAbs, fInt, fAll, fAny, fIsN, fNotN, fIsB, fNotB, fNeg, seqOf, lstOf, isL, fLt_ii, fLe_ii, fGt_ii, fGe_ii, fSub_ii, fPlus, fMod_ii, fMul_ii, fDiv_ii, fEq, fNe, eqD_int, fIx, atI_0, atI_1, atI_2, lLc, lLc2, iSeq, iCall, fEnum, fZip, wipeD, putD, lSl, lRev, R.to_ok, R.bind_ok]
    have no : ∀ y, NoI c y → dueE c [a0, a1, a2, a3, a4, a5, a6, some (.lst (cvD m k)), some (.int i), some y, a10, a11, a12, a13, a14, a15, a16, a17, a18, a19] S = .ok (.bl false) S → ∃ b : Bool, dueE c [a0, a1, a2, a3, a4, a5, a6, some (.lst (cvD m k)), some (.int i), some y, a10, a11, a12, a13, a14, a15, a16, a17, a18, a19] S = .ok (.bl b) S ∧ F_is_call c [.ref t, .int i, y] S = .ok (.bl b) S := fun y h1 h2 => ⟨false, h2, is_call_no2 c S ht i h1⟩
    simp only [picksV, List.mem_cons, List.not_mem_nil, or_false] at hy
    rcases hy with rfl | rfl | rfl | rfl | rfl | rfl | rfl
    · exact ii _
    · exact ii _
    · exact ii _
    · exact ii _
    · exact no _ (noI_non c) (by simp [dueE, runB, env0, sSeq, sRet, sRetN, sIf, sSet, sDrop, sNx, sPar, sAsg, sAttr, sPut, sRaise, Tg.asg, Tg.asgs, eAnd, eOr, eNot, eIf, tAnd, tOr, tNot, tV, tVB, tYes, eCall, eFn, eMk, eMt, eFld, eBM, aC, aN, eV, eC, Z.e1, Z.e2, eTup, eLV, eLN, eChain, eSl, fIsi, tyD, isK, anyK, tNames, rB, tru, fLen, fTuple, fAbs, fInt, fAll, fAny, fIsN, fNotN, fIsB, fNotB, fNeg, seqOf, lstOf, isL, fLt_ii, fLe_ii, fGt_ii, fGe_ii, fSub_ii, fPlus, fMod_ii, fMul_ii, fDiv_ii, fEq, fNe, eqD_int, fIx, atI_0, atI_1, atI_2, lLc, lLc2, iSeq, iCall, fEnum, fZip, wipeD, putD, lSl, lRev, R.to_ok, R.bind_ok])
    · exact no _ (noI_bl c true) (by simp [dueE, runB, env0, sSeq, sRet, sRetN, sIf, sSet, sDrop, sNx, sPar, sAsg, sAttr, sPut, sRaise, Tg.asg, Tg.asgs, eAnd, eOr, eNot, eIf, tAnd, tOr, tNot, tV, tVB, tYes, eCall, eFn, eMk, eMt, eFld, eBM, aC, aN, eV, eC, Z.e1, Z.e2, eTup, eLV, eLN, eChain, eSl, fIsi, tyD, isK, anyK, tNames, rB, tru, fLen, fTuple, fAbs, fInt, fAll, fAny, fIsN, fNotN, fIsB, fNotB, fNeg, seqOf, lstOf, isL, fLt_ii, fLe_ii, fGt_ii, fGe_ii, fSub_ii, fPlus, fMod_ii, fMul_ii, fDiv_ii, fEq, fNe, eqD_int, fIx, atI_0, atI_1, atI_2, lLc, lLc2, iSeq, iCall, fEnum, fZip, wipeD, putD, lSl, lRev, R.to_ok, R.bind_ok])
    · exact no _ (noI_str c _) (by simp [dueE, runB, env0, sSeq, sRet, sRetN, sIf, sSet, sDrop, sNx, sPar, sAsg, sAttr, sPut, sRaise, Tg.asg, Tg.asgs, eAnd, eOr, eNot, eIf, tAnd, tOr, tNot, tV, tVB, tYes, eCall, eFn, eMk, eMt, eFld, eBM, aC, aN, eV, eC, Z.e1, Z.e2, eTup, eLV, eLN, eChain, eSl, fIsi, tyD, isK, anyK, tNames, rB, tru, fLen, fTuple, fAbs, fInt, fAll, fAny, fIsN, fNotN, fIsB, fNotB, fNeg, seqOf, lstOf, isL, fLt_ii, fLe_ii, fGt_ii, fGe_ii, fSub_ii, fPlus, fMod_ii, fMul_ii, fDiv_ii, fEq, fNe, eqD_int, fIx, atI_0, atI_1, atI_2, lLc, lLc2, iSeq, iCall, fEnum, fZip, wipeD, putD, lSl, lRev, R.to_ok, R.bind_ok])
  have no : NoI c x → dueE c [a0, a1, a2, a3, a4, a5, a6, some (.lst (cvD m k)), some x, some y, a10, a11, a12, a13, a14, a15, a16, a17, a18, a19] S = .ok (.bl false) S → ∃ b : Bool, dueE c [a0, a1, a2, a3, a4, a5, a6, some (.lst (cvD m k)), some x, some y, a10, a11, a12, a13, a14, a15, a16, a17, a18, a19] S = .ok (.bl b) S ∧ F_is_call c [.ref t, x, y] S = .ok (.bl b) S := fun h1 h2 => ⟨false, h2, is_call_no1 c S ht h1⟩
  simp only [picksC, List.mem_cons, List.not_mem_nil, or_false] at hx
  rcases hx with rfl | rfl | rfl | rfl | rfl | rfl | rfl | rfl
  · exact main _ rfl y hy
  · exact main _ rfl y hy
  · exact main _ rfl y hy
  · exact main _ rfl y hy
  · exact no (noI_non c) (by simp [dueE, runB, env0, sSeq, sRet, sRetN, sIf, sSet, sDrop, sNx, sPar, sAsg, sAttr, sPut, sRaise, Tg.asg, Tg.asgs, eAnd, eOr, eNot, eIf, tAnd, tOr, tNot, tV, tVB, tYes, eCall, eFn, eMk, eMt, eFld, eBM, aC, aN, eV, eC, Z.e1, Z.e2, eTup, eLV, eLN, eChain, eSl, fIsi, tyD, isK, anyK, tNames, rB, tru, fLen, fTuple, fAbs, fInt, fAll, fAny, fIsN, fNotN, fIsB, fNotB, fNeg, seqOf, lstOf, isL, fLt_ii, fLe_ii, fGt_ii, fGe_ii, fSub_ii, fPlus, fMod_ii, fMul_ii, fDiv_ii, fEq, fNe, eqD_int, fIx, atI_0, atI_1, atI_2, lLc, lLc2, iSeq, iCall, fEnum, fZip, wipeD, putD, lSl, lRev, R.to_ok, R.bind_ok])
  · exact no (noI_bl c true) (by simp [dueE, runB, env0, sSeq, sRet, sRetN, sIf, sSet, sDrop, sNx, sPar, sAsg, sAttr, sPut, sRaise, Tg.asg, Tg.asgs, eAnd, eOr, eNot, eIf, tAnd, tOr, tNot, tV, tVB, tYes, eCall, eFn, eMk, eMt, eFld, eBM, aC, aN, eV, eC, Z.e1, Z.e2, eTup, eLV, eLN, eChain, eSl, fIsi, tyD, isK, anyK, tNames, rB, tru, fLen, fTuple, fAbs, fInt, fAll, fAny, fIsN, fNotN, fIsB, fNotB, fNeg, seqOf, lstOf, isL, fLt_ii, fLe_ii, fGt_ii, fGe_ii, fSub_ii, fPlus, fMod_ii, fMul_ii, fDiv_ii, fEq, fNe, eqD_int, fIx, atI_0, atI_1, atI_2, lLc, lLc2, iSeq, iCall, fEnum, fZip, wipeD, putD, lSl, lRev, R.to_ok, R.bind_ok])
  · exact no (noI_str c _) (by simp [dueE, runB, env0, sSeq, sRet, sRetN, sIf, sSet, sDrop, sNx, sPar, sAsg, sAttr, sPut, sRaise, Tg.asg, Tg.asgs, eAnd, eOr, eNot, eIf, tAnd, tOr, tNot, tV, tVB, tYes, eCall, eFn, eMk, eMt, eFld, eBM, aC, aN, eV, eC, Z.e1, Z.e2, eTup, eLV, eLN, eChain, eSl, fIsi, tyD, isK, anyK, tNames, rB, tru, fLen, fTuple, fAbs, fInt, fAll, fAny, fIsN, fNotN, fIsB, fNotB, fNeg, seqOf, lstOf, isL, fLt_ii, fLe_ii, fGt_ii, fGe_ii, fSub_ii, fPlus, fMod_ii, fMul_ii, fDiv_ii, fEq, fNe, eqD_int, fIx, atI_0, atI_1, atI_2, lLc, lLc2, iSeq, iCall, fEnum, fZip, wipeD, putD, lSl, lRev, R.to_ok, R.bind_ok])
  · exact no (noI_tup c _) (by simp [dueE, runB, env0, sSeq, sRet, sRetN, sIf, sSet, sDrop, sNx, sPar, sAsg, sAttr, sPut, sRaise, Tg.asg, Tg.asgs, eAnd, eOr, eNot, eIf, tAnd, tOr, tNot, tV, tVB, tYes, eCall, eFn, eMk, eMt, eFld, eBM, aC, aN, eV, eC, Z.e1, Z.e2, eTup, eLV, eLN, eChain, eSl, fIsi, tyD, isK, anyK, tNames, rB, tru, fLen, fTuple, fAbs, fInt, fAll, fAny, fIsN, fNotN, fIsB, fNotB, fNeg, seqOf, lstOf, isL, fLt_ii, fLe_ii, fGt_ii, fGe_ii, fSub_ii, fPlus, fMod_ii, fMul_ii, fDiv_ii, fEq, fNe, eqD_int, fIx, atI_0, atI_1, atI_2, lLc, lLc2, iSeq, iCall, fEnum, fZip, wipeD, putD, lSl, lRev, R.to_ok, R.bind_ok])
theorem lw_4 {T : Sto} (hS : Hp2 T S) (hT : T[t]? = some (thing c n m k f)) (a0 a2 a4 a5 a8 a9 a10 a11 a12 a13 a14 a15 a16 a17 a18 a19 : Option D) :
    ∃ S' b8 b9 b15, lb_law_4 c [a0, some (.ref 1), a2, some (.tup (callsD m k)), a4, a5, some (.ref (t + 2)), some (.lst (cvD m k)), a8, a9, a10, a11, a12, a13, a14, a15, a16, a17, a18, a19] S = .nx [a0, some (.ref 1), a2, some (.tup (callsD m k)), a4, a5, some (.ref (t + 2)), some (.lst (cvD m k)), b8, b9, a10, a11, a12, a13, a14, b15, a16, a17, a18, a19] S' ∧ Hp2 T S' := by
  obtain ⟨r1, S1, x, hx, e1, h1⟩ := pick_l c T (picksC m) (by simp [picksC]) (by simp [picksC]) S hS
  obtain ⟨r2, S2, y, hy, e2, h2⟩ := pick_l c T picksV (by simp [picksV]) (by simp [picksV]) S1 h1
  obtain ⟨b, d1, d2⟩ := due_is c S2 (hp_at h2 hT) (List.mem_of_getElem? hx) (List.mem_of_getElem? hy) a0 (some (.ref 1)) a2 (some (.tup (callsD m k))) a4 a5 (some (.ref (t + 2))) a10 a11 a12 a13 a14 a15 a16 a17 a18 a19
  have l := like_bl c S2 8 b
  have cl := callsD_len m k
  refine ⟨S2, some x, some y, some (.bl b), ?_, h2⟩
  unfold lb_law_4
  rw [seq_set (d := x) (S' := S1) (by
    unfold picksC at e1
    simp [eFn, aC, aN, eV, eLV, eC, eTup, Z.e2, Z.e1, fNeg, eCall, fLen, seqOf, cl, fSub_ii, dl__law_pick, e1])]
  rw [seq_set (d := y) (S' := S2) (by
    unfold picksV at e2
    simp [eFn, aC, aN, eV, eLV, eC, Z.e1, fNeg, dl__law_pick, e2])]
  unfold dueE at d1
  show sSeq _ _ [a0, some (.ref 1), a2, some (.tup (callsD m k)), a4, a5, some (.ref (t + 2)), some (.lst (cvD m k)), some x, some y, a10, a11, a12, a13, a14, a15, a16, a17, a18, a19] S2 = _
  rw [seq_set (d := .bl b) (S' := S2) d1]
  simp [dl__law_like, dl_is_call, d2, l, runB, env0, sSeq, sRet, sRetN, sIf, sSet, sDrop, sNx, sPar, sAsg, sAttr, sPut, sRaise, Tg.asg, Tg.asgs, eAnd, eOr, eNot, eIf, tAnd, tOr, tNot, tV, tVB, tYes, eCall, eFn, eMk, eMt, eFld, eBM, aC, aN, eV, eC, Z.e1, Z.e2, eTup, eLV, eLN, eChain, eSl, fIsi, tyD, isK, anyK, tNames, rB, tru, fLen, fTuple, fAbs, fInt, fAll, fAny, fIsN, fNotN, fIsB, fNotB, fNeg, seqOf, lstOf, isL, fLt_ii, fLe_ii, fGt_ii, fGe_ii, fSub_ii, fPlus, fMod_ii, fMul_ii, fDiv_ii, fEq, fNe, eqD_int, fIx, atI_0, atI_1, atI_2, lLc, lLc2, iSeq, iCall, fEnum, fZip, wipeD, putD, lSl, lRev, R.to_ok, R.bind_ok]
end
end Z.k01
namespace Z.k01
open PySem L2 Z
variable (c : Ad) (S : Sto)
def Inv (sc a18 a19 : Option D) (ρ : Env) : Prop := ∃ a2 a3 a4 a5 a6 a7 a8 a9 a10 a11 a12 a13 a14 a15 a16 a17, ρ = [sc, some (.ref 1), a2, a3, a4, a5, a6, a7, a8, a9, a10, a11, a12, a13, a14, a15, a16, a17, a18, a19]
theorem eq_told : eqD S (.str "told") (.str "told") = some true := eqD_strs S _ (by decide +kernel)
section
variable {n m t : Nat} {k : Cl} {f : Fl}
theorem lw_pairs (o : Okk n m k f) (a0 a1 a2 a4 a5 a6 a8 a9 a10 a11 a12 a13 a14 a15 a16 a17 a18 a19 : Option D) : ∃ b8, forI (.nm 8) (lb_law_1 c) (fun _ => True) (iRow 0 m) [a0, a1, a2, some (.tup (callsD m k)), a4, a5, a6, some (.lst []), a8, a9, a10, a11, a12, a13, a14, a15, a16, a17, a18, a19] S = .nx [a0, a1, a2, some (.tup (callsD m k)), a4, a5, a6, some (.lst (cvD m k)), b8, a9, a10, a11, a12, a13, a14, a15, a16, a17, a18, a19] S := by
  obtain ⟨ρ', S', h1, hS, b8, hρ⟩ := forI_idx (tg := .nm 8) (chk := fun _ => True) (b := lb_law_1 c) (fun j ρ S' => S' = S ∧ ∃ b8, ρ = [a0, a1, a2, some (.tup (callsD m k)), a4, a5, a6, some (.lst (cvTo k j)), b8, a9, a10, a11, a12, a13, a14, a15, a16, a17, a18, a19]) (iRow 0 m) [a0, a1, a2, some (.tup (callsD m k)), a4, a5, a6, some (.lst []), a8, a9, a10, a11, a12, a13, a14, a15, a16, a17, a18, a19] S ⟨rfl, a8, rfl⟩ fun j d hd ρ S1 hP => by
    obtain ⟨rfl, b8, rfl⟩ := hP
    have hj := get_lt hd
    rw [iRow_len] at hj
    rw [iRow_get 0 m j hj] at hd
    cases hd
    have e0 : (0 : Int) + (j : Nat) = (j : Nat) := by omega
    rw [e0]
    have q := lw_1 c S1 o hj a0 a1 a2 a4 a5 a6 a9 a10 a11 a12 a13 a14 a15 a16 a17 a18 a19
    exact ⟨_, asg_nm .., _, _, .inl (by simpa using q), trivial, rfl, some (.int (j : Nat)), rfl⟩
  rw [iRow_len, cvTo_all] at hρ
  rw [hS, hρ] at h1
  exact ⟨b8, h1⟩
theorem lw_picks {T : Sto} (hS : Hp2 T S) (hT : T[t]? = some (thing c n m k f)) (a0 a2 a4 a5 a8 a9 a10 a11 a12 a13 a14 a15 a16 a17 a18 a19 : Option D) :
    ∃ S' b8 b9 b14 b15, forI (.nm 14) (lb_law_4 c) (fun _ => True) (iRow 0 6) [a0, some (.ref 1), a2, some (.tup (callsD m k)), a4, a5, some (.ref (t + 2)), some (.lst (cvD m k)), a8, a9, a10, a11, a12, a13, a14, a15, a16, a17, a18, a19] S = .nx [a0, some (.ref 1), a2, some (.tup (callsD m k)), a4, a5, some (.ref (t + 2)), some (.lst (cvD m k)), b8, b9, a10, a11, a12, a13, b14, b15, a16, a17, a18, a19] S' ∧ Hp2 T S' := by
  obtain ⟨ρ', S', h1, h2, b8, b9, b14, b15, rfl⟩ := forI_keep (tg := .nm 14) (chk := fun _ => True) (b := lb_law_4 c) (fun ρ S' => Hp2 T S' ∧ ∃ b8 b9 b14 b15, ρ = [a0, some (.ref 1), a2, some (.tup (callsD m k)), a4, a5, some (.ref (t + 2)), some (.lst (cvD m k)), b8, b9, a10, a11, a12, a13, b14, b15, a16, a17, a18, a19]) (iRow 0 6) _ S ⟨hS, a8, a9, a14, a15, rfl⟩ fun d hd ρ S1 hP => by
    obtain ⟨h1, b8, b9, b14, b15, rfl⟩ := hP
    obtain ⟨S2, c8, c9, c15, q1, q2⟩ := lw_4 c S1 h1 hT a0 a2 a4 a5 b8 b9 a10 a11 a12 a13 (some d) b15 a16 a17 a18 a19
    exact ⟨_, asg_nm .., _, _, .inl (by simpa using q1), trivial, q2, c8, c9, some d, c15, rfl⟩
  exact ⟨S', b8, b9, b14, b15, h1, h2⟩
theorem sure_max (o : Okk n m k f) {q : Nat} (hq : S[q]? = some (.lst ((lotsN n m k f).map lotD))) (a0 a1 a2 a3 a4 a5 a6 a7 a8 a9 a11 a12 a13 a14 a15 a16 a17 a18 a19 : Option D) : (Z.e2 fEq (eCall fMax (aC (eLV (lLc (.nm 12) (iSeq (eV 10)) tYes (eCall fLen (aC (eV 12) aN)) [12])) aN)) (eC (.int 1))) [a0, a1, a2, a3, a4, a5, a6, a7, a8, a9, some (.ref q), a11, a12, a13, a14, a15, a16, a17, a18, a19] S = .ok (.bl (sureB n m k f)) S := by
  have l1 := lots_len o
  obtain ⟨x, r, e, hs⟩ := max_sure o
  have g1 : lcI (.nm 12) (fun S' => S'[q]? = some (.lst ((lotsN n m k f).map lotD))) tYes (eCall fLen (aC (eV 12) aN)) [a0, a1, a2, a3, a4, a5, a6, a7, a8, a9, some (.ref q), a11, none, a13, a14, a15, a16, a17, a18, a19] ((lotsN n m k f).map lotD) S = .ok (((lotsN n m k f).map fun l => (l.length : Int)).map D.int) S := by
    rw [lcI_map (fun d => match d with
      | .tup ds => .int ds.length
      | d => d) hq _ fun d hd => ?_]
    · rw [List.map_map, List.map_map]
      congr 1
      apply List.map_congr_left
      intro l _
      simp [lotD]
    · obtain ⟨l, _, rfl⟩ := List.mem_map.mp hd
      exact ⟨_, asg_nm .., by simp [eCall, aC, aN, eV, fLen, seqOf, lotD]⟩
  have g2 : ((lotsN n m k f).map lotD).length ≤ 16777216 := by rw [List.length_map]; exact l1
  rw [e] at g1
  have g3 : fMax [.lst ((x :: r).map D.int)] S = .ok (.int (maxI x r)) S := by
    simp [fMax, lstOf, intsD, intsD_map]
  obtain ⟨XL, hXL⟩ : ∃ XL, XL = (x :: r).map D.int := ⟨_, rfl⟩
  rw [← hXL] at g1 g3
  obtain ⟨LL, hLL⟩ : ∃ LL, LL = (lotsN n m k f).map lotD := ⟨_, rfl⟩
  rw [← hLL] at g1 g2 hq
  simp [Z.e2, eCall, aC, aN, eLV, lLc, iSeq, eV, hq, g2, wipeD, g1, g3, eC, fEq, rB, eqD_int, hs]
theorem parts_no (h : S[t]? = some (thing c n m k f)) (s : Nat) : ∀ d ∈ [D.non, .ref t, .tup [.ref t], .lst [.ref t, .int (s : Nat)], .tup [.ref t, .int n], .tup [.ref t, .int (-1)], .tup [.ref t, .bl true], .tup [.non, .int 0], .tup [.ref t, .int (s : Nat), .int 0], .tup [.tup (tabD n m k f), .int 0]], F_is_part c [d] S = .ok (.bl false) S := by
  intro d hd
  simp only [List.mem_cons, List.not_mem_nil, or_false] at hd
  rcases hd with rfl | rfl | rfl | rfl | rfl | rfl | rfl | rfl | rfl | rfl
  · exact is_part_non c S
  · exact is_part_ref c S h
  · exact is_part_1 c S _
  · exact is_part_lst c S _
  · rw [is_part_i c S h]
    have : ¬ (n : Int) ≤ (n : Int) - 1 := by omega
    simp [this]
  · rw [is_part_i c S h]
    simp
  · exact is_part_no c S h (noI_bl c true)
  · exact is_part_n2 c S _
  · exact is_part_3 c S _ _ _
  · exact is_part_t2 c S _ _
theorem parts_all (h : S[t]? = some (thing c n m k f)) (s : Nat) (a0 a1 a2 a3 a4 a5 a6 a7 a8 a9 a10 a11 a12 a13 a14 a15 a17 a18 a19 : Option D) : (eCall fAll (aC (eLV (lLc (.nm 17) (iSeq (eV 16)) tYes (Z.e2 fIsB (eFn 1 (F_is_part c) (dl_is_part.drop 0) (aC (eV 17) aN)) (eC (.bl false))) [17])) aN)) [a0, a1, a2, a3, a4, a5, a6, a7, a8, a9, a10, a11, a12, a13, a14, a15, some (.lst [D.non, .ref t, .tup [.ref t], .lst [.ref t, .int (s : Nat)], .tup [.ref t, .int n], .tup [.ref t, .int (-1)], .tup [.ref t, .bl true], .tup [.non, .int 0], .tup [.ref t, .int (s : Nat), .int 0], .tup [.tup (tabD n m k f), .int 0]]), a17, a18, a19] S = .ok (.bl true) S := by
  have pn := parts_no c S h s
  obtain ⟨ds, hds⟩ : ∃ ds, ds = [D.non, .ref t, .tup [.ref t], .lst [.ref t, .int (s : Nat)], .tup [.ref t, .int n], .tup [.ref t, .int (-1)], .tup [.ref t, .bl true], .tup [.non, .int 0], .tup [.ref t, .int (s : Nat), .int 0], .tup [.tup (tabD n m k f), .int 0]] := ⟨_, rfl⟩
  have hl : ds.length ≤ 16777216 := by rw [hds]; simp
  rw [← hds] at pn ⊢
  clear hds
  have g1 : lcI (.nm 17) (fun _ => True) tYes (Z.e2 fIsB (eFn 1 (F_is_part c) dl_is_part (aC (eV 17) aN)) (eC (.bl false))) [a0, a1, a2, a3, a4, a5, a6, a7, a8, a9, a10, a11, a12, a13, a14, a15, some (.lst ds), none, a18, a19] ds S = .ok (ds.map fun _ => .bl true) S := by
    refine lcI_map (fun _ => .bl true) trivial _ fun d hd => ⟨_, asg_nm .., ?_⟩
    simp [Z.e2, eFn, aC, aN, eV, eC, dl_is_part, pn d hd, fIsB]
  have g2 : bools (ds.map fun _ => D.bl true) = some (ds.map fun _ => true) := bools_true _
  simp [eCall, aC, aN, eLV, lLc, iSeq, eV, hl, wipeD, g1, fAll, lstOf, g2]
end
end Z.k01
namespace Z.k01
open PySem L2 Z
variable (c : Ad) (S : Sto)
theorem fo_reach {n m : Nat} {k : Cl} {f : Fl} (o : Okk n m k f) : ∀ (q : Nat) (xs : List Nat) (a : Nat), Fo n xs → Fo n (reachN m k f q xs a)
  | 0, xs, a, h => h
  | q + 1, xs, a, h => by
    unfold reachN
    cases hx : xs[a]? with
    | none => exact h
    | some s => exact fo_reach o q _ _ (fo_step o (h.2 s (List.mem_of_getElem? hx)) (cvN m k) xs (fun p hp => hp) h).1
theorem lw_5 {T : Sto} (hS : Hp2 T S) (sc a18 a19 : Option D) (ρ : Env) (hρ : Inv sc a18 a19 ρ) : ∃ ρ' S' G, lb_law_5 c ρ S = .nx ρ' S' ∧ Inv sc a18 a19 ρ' ∧ Hp2 (T ++ G) S' := by
  obtain ⟨a2, a3, a4, a5, a6, a7, a8, a9, a10, a11, a12, a13, a14, a15, a16, a17, rfl⟩ := hρ
  obtain ⟨r, S1, hr, e1, h1⟩ := draw_i c T 2 (by omega) (by omega) S hS
  have e1' : F__law_draw c [.ref 1, .int 2] S = .ok (.int (r : Nat)) S1 := e1
  have er : decide ((r : Int) = 0) = decide (r = 0) := decide_eq_decide.mpr (by omega)
  obtain ⟨n, m, k, f, G1, S2, o, n5, m3, k3, e2, h2⟩ := thing_i c (decide (r = 0)) h1
  obtain ⟨CD, S3, e3, h3, q3⟩ := listed_i c (T ++ G1) 5 2 (.tup (callsD m k)) S2 (by omega) (tu_calls o) h2
  obtain ⟨TD, S4, e4, h4, q4⟩ := listed_i c (T ++ G1) 5 3 (.tup (tabD n m k f)) S3 (by omega) (tu_tab o) h3
  obtain ⟨cs, hC⟩ := ls_C q3
  obtain ⟨ts, ht, hn, hrow⟩ := ls_T q4
  have e5 := tried_ok c S4 o hC ht hn hrow
  have h5 := hp_push h4 [thing c n m k f]
  have l4 := hp_len h4
  obtain ⟨t, hT⟩ : ∃ t, t = (T ++ G1).length := ⟨_, rfl⟩
  rw [← hT] at l4
  obtain ⟨B, hB⟩ : ∃ B, B = (T ++ G1) ++ [thing c n m k f] := ⟨_, rfl⟩
  rw [← hB] at h5
  have tB : B[t]? = some (thing c n m k f) := by rw [hB, hT]; simp
  obtain ⟨S5, hS5⟩ : ∃ S5, S5 = S4 ++ [thing c n m k f] := ⟨_, rfl⟩
  rw [← hS5] at h5 e5
  rw [l4] at e5
  have t5 := hp_at h5 tB
  have n1 := o.n1
  have m2 := o.m2
  have cl := callsD_len m k
  have tl := tabD_len n m k f
  have e3' : F__law_listed c 5 [.ref 1, .tup (callsD m k), .int 2] S2 = .ok CD S3 := e3
  have e4' : F__law_listed c 5 [.ref 1, .tup (tabD n m k f), .int 3] S3 = .ok TD S4 := e4
  have hfin : ∃ G, B ++ G = B ++ G := ⟨[], rfl⟩
  -- the loops' parts
  obtain ⟨b8, e7⟩ := lw_pairs c S5 o sc (some (.ref 1)) a2 (some (.tup (tabD n m k f))) (some (.str "told")) (some (.ref (t + 2))) a8 a9 a10 a11 a12 a13 a14 a15 a16 a17 a18 a19
  have h6 := hp_push h5 [.lst []]
  have l5 := hp_len h5
  obtain ⟨S6, c8, c9, c11, e8, h7⟩ := lw_lots c o h6 tB sc (some (.ref 1)) a2 (some (.tup (callsD m k))) (some (.str "told")) b8 a9 a11 a12 a13 a14 a15 a16 a17 a18 a19
  have t6 := hp_at h7 (app_get tB)
  have qL := hp_get h7 (G := [])
  obtain ⟨s, S7, hs, e9, h8⟩ := draw_i c _ n (by omega) (by omega) S6 h7
  have t7 := hp_at h8 (app_get tB)
  obtain ⟨G2, e10⟩ := reached_i c S7 o t7 hs (by omega)
  have h9 := hp_push h8 G2
  obtain ⟨S8, hS8⟩ : ∃ S8, S8 = S7 ++ G2 := ⟨_, rfl⟩
  rw [← hS8] at h9 e10
  have e11 := lreached_i c S8 o hs (by omega)
  rw [List.append_assoc] at h9
  obtain ⟨S9, d8, d9, d14, d15, e12, h10⟩ := lw_picks c S8 h9 (app_get tB) sc a2 (some (.tup (tabD n m k f))) (some (.str "told")) c8 c9 (some (.ref (B.length + 2))) c11 a12 (some (.int (s : Nat))) a14 a15 a16 a17 a18 a19
  have t9 := hp_at h10 (app_get tB)
  have e13 := is_part_i c S9 t9 (s : Int)
  have e13b : (decide ((0 : Int) ≤ (s : Int)) && decide ((s : Int) ≤ (n : Int) - 1)) = true := by
    rw [Bool.and_eq_true_iff]
    exact ⟨decide_eq_true (by omega), decide_eq_true (by omega)⟩
  rw [e13b] at e13
  have e14 := parts_all c S9 t9 s sc (some (.ref 1)) a2 (some (.tup (callsD m k))) (some (.tup (tabD n m k f))) (some (.str "told")) (some (.ref (t + 2))) (some (.lst (cvD m k))) d8 d9 (some (.ref (B.length + 2))) c11 a12 (some (.int (s : Nat))) d14 d15 a17 a18 a19
  obtain ⟨G3, S10, e15, h11⟩ := checked_i c S9 o h10
  refine ⟨_, S10, G1 ++ [thing c n m k f] ++ ([.lst ((lotsN n m k f).map lotD)] ++ G2) ++ G3, ?_, ⟨a2, some (.tup (callsD m k)), some (.tup (tabD n m k f)), some (.str "told"), some (.ref (t + 2)), some (.lst (cvD m k)), d8, d9, some (.ref (B.length + 2)), c11, a12, some (.int (s : Nat)), d14, d15, some (.lst [D.non, .ref (t + 2), .tup [.ref (t + 2)], .lst [.ref (t + 2), .int (s : Nat)], .tup [.ref (t + 2), .int n], .tup [.ref (t + 2), .int (-1)], .tup [.ref (t + 2), .bl true], .tup [.non, .int 0], .tup [.ref (t + 2), .int (s : Nat), .int 0], .tup [.tup (tabD n m k f), .int 0]]), a17, rfl⟩, by
    rw [hB] at h11
    simpa [List.append_assoc] using h11⟩
  unfold lb_law_5
  rw [seq_asg (d := .tup [.tup (callsD m k), .tup (tabD n m k f)]) (S' := S2) (ρ' := [sc, some (.ref 1), a2, some (.tup (callsD m k)), some (.tup (tabD n m k f)), a5, a6, a7, a8, a9, a10, a11, a12, a13, a14, a15, a16, a17, a18, a19]) (by simp [eFn, aC, aN, eV, eC, Z.e2, dl__law_draw, dl__law_thing, e1', fEq, rB, eqD_int, er, e2]) (by simp [Tg.asg, Tg.asgs, seqOf])]
  rw [seq_asg (d := .tup [.str "told", .ref (t + 2)]) (S' := S5) (ρ' := [sc, some (.ref 1), a2, some (.tup (callsD m k)), some (.tup (tabD n m k f)), some (.str "told"), some (.ref (t + 2)), a7, a8, a9, a10, a11, a12, a13, a14, a15, a16, a17, a18, a19]) (by simp [eFn, aC, aN, eV, eC, dl__law_listed, dl__law_tried, e3', e4', e5]) (by simp [Tg.asg, Tg.asgs, seqOf])]
  have lk1 := like_same c S5 9 (.tup [.tup (callsD m k), .tup (tabD n m k f)]) ⟨by simp, fun x hx => by
    simp only [List.mem_cons, List.not_mem_nil, or_false] at hx
    rcases hx with rfl | rfl
    · exact lk_calls o 5
    · exact lk_tab o 2⟩
  have et := eq_told S5
  rw [seq_skip (S' := S5) (by simp [tOr, tNot, tVB, tV, Z.e2, fNe, rB, eV, eC, et, eCall, aC, aN, fIsi, tyD, isK, anyK, t5, thing, eFn, eTup, eFld, Z.e1, look_calls, look_table, dl__law_like, lk1, tru])]
  rw [seq_set (d := .lst []) (S' := S5) (by simp [eLV, aN])]
  have i7 : iR1 (eCall fLen (aC (eV 3) aN)) [sc, some (.ref 1), a2, some (.tup (callsD m k)), some (.tup (tabD n m k f)), some (.str "told"), some (.ref (t + 2)), some (.lst []), a8, a9, a10, a11, a12, a13, a14, a15, a16, a17, a18, a19] S5 = .ok (iRow 0 m, fun _ => True) S5 := iR1_nat (by simp [eCall, aC, aN, eV, fLen, seqOf, cl]) (by omega)
  refine Eq.trans (seq_nx (a := sFor (.nm 8) _ (lb_law_1 c)) (Eq.trans (for_nx i7) e7)) ?_
  have hc := calls_i c S5 o t5
  have hst := states_i c S5 t5
  have lk2 := like_same c S5 9 (.tup (cvD m k)) (lk_cv o 6)
  have lk3 := like_same c S5 9 (.int n) trivial
  rw [seq_skip (S' := S5) (by simp [tOr, tNot, tV, eFn, aC, aN, eV, eCall, fTuple, fLen, seqOf, dl_calls_of, dl_states_of, dl__law_like, hc, hst, tl, lk2, lk3, tru])]
  rw [seq_set (d := .ref (B.length + 2)) (S' := S5 ++ [.lst []]) (by simp [eLN, aN, l5])]
  have i8 : iR1 (eCall fLen (aC (eV 4) aN)) [sc, some (.ref 1), a2, some (.tup (callsD m k)), some (.tup (tabD n m k f)), some (.str "told"), some (.ref (t + 2)), some (.lst (cvD m k)), b8, a9, some (.ref (B.length + 2)), a11, a12, a13, a14, a15, a16, a17, a18, a19] (S5 ++ [.lst []]) = .ok (iRow 0 n, fun _ => True) (S5 ++ [.lst []]) := iR1_nat (by simp [eCall, aC, aN, eV, fLen, seqOf, tl]) (by omega)
  refine Eq.trans (seq_nx (a := sFor (.nm 11) _ (lb_law_3 c)) (Eq.trans (for_nx i8) e8)) ?_
  have hsu := sure_i c S6 o t6
  have hmx := sure_max S6 o qL sc (some (.ref 1)) a2 (some (.tup (callsD m k))) (some (.tup (tabD n m k f))) (some (.str "told")) (some (.ref (t + 2))) (some (.lst (cvD m k))) c8 c9 c11 a12 a13 a14 a15 a16 a17 a18 a19
  have lk4 := like_bl c S6 8 (sureB n m k f)
  have x4 : (tNot (tV (eFn 2 (F__law_like c 9) (dl__law_like.drop 0) (aC (eFn 1 (F_is_sure c) (dl_is_sure.drop 0) (aC (eV 6) aN)) (aC (Z.e2 fEq (eCall fMax (aC (eLV (lLc (.nm 12) (iSeq (eV 10)) tYes (eCall fLen (aC (eV 12) aN)) [12])) aN)) (eC (.int 1))) aN))))) [sc, some (.ref 1), a2, some (.tup (callsD m k)), some (.tup (tabD n m k f)), some (.str "told"), some (.ref (t + 2)), some (.lst (cvD m k)), c8, c9, some (.ref (B.length + 2)), c11, a12, a13, a14, a15, a16, a17, a18, a19] S6 = .ok false S6 := by
    obtain ⟨E, hE⟩ : ∃ E, E = (Z.e2 fEq (eCall fMax (aC (eLV (lLc (.nm 12) (iSeq (eV 10)) tYes (eCall fLen (aC (eV 12) aN)) [12])) aN)) (eC (.int 1))) := ⟨_, rfl⟩
    rw [← hE] at hmx ⊢
    simp [tNot, tV, eFn, aC, aN, eV, dl_is_sure, dl__law_like, hsu, hmx, lk4, tru]
  rw [seq_skip x4]
  rw [seq_set (d := .int (s : Nat)) (S' := S7) (by simp [eFn, aC, aN, eV, eCall, fLen, seqOf, dl__law_draw, tl, e9])]
  have rl : (reachN m k f 8 [s] 0).length ≤ 1000 := by
    have := nodup_len n _ (fo_reach o 8 [s] 0 ⟨by simp, by simpa using hs⟩)
    omega
  have lk5 := like_same c S8 9 (.tup (natD (reachN m k f 8 [s] 0))) (lk_nat 7 rl)
  obtain ⟨RN, hRN⟩ : ∃ RN, RN = natD (reachN m k f 8 [s] 0) := ⟨_, rfl⟩
  rw [← hRN] at e10 e11 lk5
  clear hRN
  rw [seq_skip (S' := S8) (by simp [tNot, tV, eFn, aC, aN, eV, dl_reached_states, dl__law_reached, dl__law_like, e10, e11, lk5, tru])]
  have i9 : iR1 (eC (.int 6)) [sc, some (.ref 1), a2, some (.tup (callsD m k)), some (.tup (tabD n m k f)), some (.str "told"), some (.ref (t + 2)), some (.lst (cvD m k)), c8, c9, some (.ref (B.length + 2)), c11, a12, some (.int (s : Nat)), a14, a15, a16, a17, a18, a19] S8 = .ok (iRow 0 6, fun _ => True) S8 := iR1_nat (n := 6) rfl (by omega)
  refine Eq.trans (seq_nx (a := sFor (.nm 14) _ (lb_law_4 c)) (Eq.trans (for_nx i9) e12)) ?_
  rw [seq_skip (S' := S9) (by simp [tVB, Z.e2, eFn, aC, aN, eV, eTup, eC, dl_is_part, e13, fNotB, tru])]
  rw [seq_set (d := .lst [D.non, .ref (t + 2), .tup [.ref (t + 2)], .lst [.ref (t + 2), .int (s : Nat)], .tup [.ref (t + 2), .int n], .tup [.ref (t + 2), .int (-1)], .tup [.ref (t + 2), .bl true], .tup [.non, .int 0], .tup [.ref (t + 2), .int (s : Nat), .int 0], .tup [.tup (tabD n m k f), .int 0]]) (S' := S9) (by simp [eLV, aC, aN, eC, eV, eTup, eCall, fLen, seqOf, tl, Z.e1, fNeg])]
  have x5 : (tOr (tNot (tV (eCall fAll (aC (eLV (lLc (.nm 17) (iSeq (eV 16)) tYes (Z.e2 fIsB (eFn 1 (F_is_part c) (dl_is_part.drop 0) (aC (eV 17) aN)) (eC (.bl false))) [17])) aN)))) (tNot (tV (eFn 3 (F__law_checked c) (dl__law_checked.drop 0) (aC (eV 1) (aC (eV 3) (aC (eV 4) aN))))))) [sc, some (.ref 1), a2, some (.tup (callsD m k)), some (.tup (tabD n m k f)), some (.str "told"), some (.ref (t + 2)), some (.lst (cvD m k)), d8, d9, some (.ref (B.length + 2)), c11, a12, some (.int (s : Nat)), d14, d15, some (.lst [D.non, .ref (t + 2), .tup [.ref (t + 2)], .lst [.ref (t + 2), .int (s : Nat)], .tup [.ref (t + 2), .int n], .tup [.ref (t + 2), .int (-1)], .tup [.ref (t + 2), .bl true], .tup [.non, .int 0], .tup [.ref (t + 2), .int (s : Nat), .int 0], .tup [.tup (tabD n m k f), .int 0]]), a17, a18, a19] S9 = .ok false S10 := by
    obtain ⟨E, hE⟩ : ∃ E, E = (eCall fAll (aC (eLV (lLc (.nm 17) (iSeq (eV 16)) tYes (Z.e2 fIsB (eFn 1 (F_is_part c) (dl_is_part.drop 0) (aC (eV 17) aN)) (eC (.bl false))) [17])) aN)) := ⟨_, rfl⟩
    rw [← hE] at e14 ⊢
    simp [tOr, tNot, tV, e14, eFn, aC, aN, eV, dl__law_checked, e15, tru]
  refine Eq.trans (if_f x5) ?_
  rfl
end Z.k01
namespace Z.k01
open PySem L2 Z
variable (c : Ad) (S : Sto)
/-! ### the greatest things -/
theorem rep1 (x : D) (n : Nat) : (List.replicate n [x]).flatten = (List.range n).map fun _ => x := by
  apply List.ext_getElem?
  intro i
  have e : (List.replicate n [x]).flatten = List.replicate n x := by
    induction n with
    | zero => rfl
    | succ n ih => rw [List.replicate_succ, List.flatten_cons, ih, List.replicate_succ]; rfl
  rw [e]
  by_cases h : i < n <;> simp [h]
def kW : Cl := fun _ => (16, 16)
def fW : Fl := fun _ _ _ => [(15, 0)]
def kL : Cl := fun _ => (1, 16)
def fL : Fl := fun _ _ _ => [(15, 255)]
theorem okW : Okk 1 12 kW fW := ⟨by omega, by omega, by omega, by omega, fun i hi => by simp [kW], fun s i v hs hi hv => .inl ⟨(15, 0), rfl, ⟨by simp [kW], by simp⟩⟩⟩
theorem okL : Okk 256 1 kL fL := ⟨by omega, by omega, by omega, by omega, fun i hi => by simp [kL], fun s i v hs hi hv => .inl ⟨(15, 255), rfl, ⟨by simp [kL], by simp⟩⟩⟩
theorem one_rep {x : D} {n : Nat} (h1 : 2 ≤ n) (h2 : n ≤ 1000) : fRepT (.tup [x]) (.int (n : Nat)) S = .ok (.tup ((List.range n).map fun _ => x)) S := by
  rw [fRepT_ok S (by simp) h1 h2 (by simp), rep1]
theorem mkW {n m : Nat} {k : Cl} {f : Fl} (o : Okk n m k f) : F_Thing_mk c [.ref S.length, .tup (callsD m k), .tup (tabD n m k f)] (S ++ [.ins c.Thing []]) = .ok .non (S ++ [thing c n m k f]) := mk_ok c S o (isC_t m k) (.inl rfl) (tabD_len n m k f) fun s y h => isRow_t h
theorem cW : callsD 12 kW = (List.range 12).map fun _ => .tup [.int 16, .int 16] := rfl
theorem tW : tabD 1 12 kW fW = [.tup ((List.range 12).map fun _ => .tup ((List.range 16).map fun _ => .tup [.tup [.int 15, .int 0]]))] := rfl
theorem cL : callsD 1 kL = [.tup [.int 1, .int 16]] := rfl
theorem tL : tabD 256 1 kL fL = (List.range 256).map fun _ => .tup [.tup [.tup [.tup [.int 15, .int 255]]]] := rfl
theorem law_true (ns : List Int) (hn : ns.length ≤ 63) : ∃ S, F_law c [.scr (scrD ns)] [] = .ok (.bl true) S := by
  obtain ⟨S1, e1, h1⟩ := heap_i c ns
  have e1' : F__law_heap c [.scr (scrD ns)] [] = .ok (.ref 1) S1 := e1
  obtain ⟨ρ2, S2, e2, ⟨a2, a3, a4, a5, a6, a7, a8, a9, a10, a11, a12, a13, a14, a15, a16, a17, rfl⟩, G, h2⟩ := forI_keep (tg := .nm 2) (chk := fun _ => True) (b := lb_law_5 c) (fun ρ S' => Inv (some (.scr (scrD ns))) none none ρ ∧ ∃ G, Hp2 G S') (iRow 0 2) [some (.scr (scrD ns)), some (.ref 1), none, none, none, none, none, none, none, none, none, none, none, none, none, none, none, none, none, none] S1 ⟨⟨_, _, _, _, _, _, _, _, _, _, _, _, _, _, _, _, rfl⟩, [], h1⟩ fun d hd ρ S' hP => by
    obtain ⟨⟨a2, a3, a4, a5, a6, a7, a8, a9, a10, a11, a12, a13, a14, a15, a16, a17, rfl⟩, G, hS⟩ := hP
    obtain ⟨ρ', S'', G', q1, q2, q3⟩ := lw_5 c S' hS (some (.scr (scrD ns))) none none [some (.scr (scrD ns)), some (.ref 1), some d, a3, a4, a5, a6, a7, a8, a9, a10, a11, a12, a13, a14, a15, a16, a17, none, none] ⟨_, _, _, _, _, _, _, _, _, _, _, _, _, _, _, _, rfl⟩
    exact ⟨_, asg_nm .., _, _, .inl (by simpa using q1), trivial, q2, _, q3⟩
  have w1 := mkW c S2 okW
  obtain ⟨S3, hS3⟩ : ∃ S3, S3 = S2 ++ [thing c 1 12 kW fW] := ⟨_, rfl⟩
  rw [← hS3] at w1
  have w2 := mkW c S3 okL
  obtain ⟨S4, hS4⟩ : ∃ S4, S4 = S3 ++ [thing c 256 1 kL fL] := ⟨_, rfl⟩
  rw [← hS4] at w2
  have tw : S4[S2.length]? = some (thing c 1 12 kW fW) := by
    rw [hS4]
    refine app_get ?_
    rw [hS3]
    simp
  have tl : S4[S3.length]? = some (thing c 256 1 kL fL) := by
    rw [hS4]
    simp
  have p1 : F_pairs_of c [.ref S2.length, .int 0, .int 11, .int 15] S4 = .ok (lotD [(15, 0)]) S4 := pairs_i c S4 tw 0 11 15 (by omega) (by omega) (by simp [kW])
  have p2 : F_pairs_of c [.ref S3.length, .int 255, .int 0, .int 0] S4 = .ok (lotD [(15, 255)]) S4 := pairs_i c S4 tl 255 0 0 (by omega) (by omega) (by simp [kL])
  have p3 : F_states_of c [.ref S3.length] S4 = .ok (.int 256) S4 := states_i c S4 tl
  have lk1 := like_same c S4 9 (.int 256) trivial
  have lk2 := like_same c S4 9 (.tup [lotD [(15, 0)], lotD [(15, 255)]]) ⟨by simp, fun x hx => by
    simp only [List.mem_cons, List.not_mem_nil, or_false] at hx
    rcases hx with rfl | rfl <;> exact lk_lot 5 (by simp)⟩
  have r12 : fRepT (.tup [.tup [.int 16, .int 16]]) (.int 12) S2 = .ok (.tup (callsD 12 kW)) S2 := by
    rw [cW]
    exact one_rep S2 (n := 12) (by omega) (by omega)
  have r16 : fRepT (.tup [.tup [.tup [.int 15, .int 0]]]) (.int 16) S2 = .ok (.tup ((List.range 16).map fun _ => .tup [.tup [.int 15, .int 0]])) S2 := one_rep S2 (n := 16) (by omega) (by omega)
  obtain ⟨X, hX⟩ : ∃ X : D, X = .tup ((List.range 16).map fun _ => .tup [.tup [.int 15, .int 0]]) := ⟨_, rfl⟩
  have r12b : fRepT (.tup [X]) (.int 12) S2 = .ok (.tup ((List.range 12).map fun _ => X)) S2 := one_rep S2 (n := 12) (by omega) (by omega)
  have hTW : .tup (tabD 1 12 kW fW) = D.tup [.tup ((List.range 12).map fun _ => X)] := by rw [tW, hX]
  rw [hTW] at w1
  rw [← hX] at r16
  clear hX hTW
  obtain ⟨Y, hY⟩ : ∃ Y : List D, Y = (List.range 12).map fun _ => X := ⟨_, rfl⟩
  rw [← hY] at w1 r12b
  clear hY
  obtain ⟨Z1, hZ1⟩ : ∃ Z1 : List D, Z1 = callsD 12 kW := ⟨_, rfl⟩
  rw [← hZ1] at w1 r12
  clear hZ1
  have r256 : fRepT (.tup [.tup [.tup [.tup [.tup [.int 15, .int 255]]]]]) (.int 256) S3 = .ok (.tup (tabD 256 1 kL fL)) S3 := by
    rw [tL]
    exact one_rep S3 (n := 256) (by omega) (by omega)
  rw [cL] at w2
  obtain ⟨U, hU⟩ : ∃ U : List D, U = tabD 256 1 kL fL := ⟨_, rfl⟩
  rw [← hU] at w2 r256
  clear hU
  refine ⟨S4, ?_⟩
  show runB 20 (den_law c) [.scr (scrD ns)] [] = _
  refine run_rt ?_
  unfold den_law
  show sSeq _ _ [some (.scr (scrD ns)), none, none, none, none, none, none, none, none, none, none, none, none, none, none, none, none, none, none, none] [] = _
  rw [seq_set (d := .ref 1) (S' := S1) (by simp [eFn, aC, aN, eV, dl__law_heap, e1'])]
  have i2 : iR1 (eC (.int 2)) [some (.scr (scrD ns)), some (.ref 1), none, none, none, none, none, none, none, none, none, none, none, none, none, none, none, none, none, none] S1 = .ok (iRow 0 2, fun _ => True) S1 := iR1_nat (n := 2) rfl (by omega)
  refine Eq.trans (seq_nx (a := sFor (.nm 2) _ (lb_law_5 c)) (Eq.trans (for_nx i2) e2)) ?_
  rw [seq_par (d := .ref S2.length) (S1 := S3) (e := .ref S3.length) (S' := S4) (by simp [eMk, aC, aN, Z.e2, eTup, eC, dl_Thing_mk, r12, r16, r12b, w1]) (by simp [eMk, aC, aN, Z.e2, eTup, eC, dl_Thing_mk, r256, w2])]
  refine ret_rt ?_
  have lk2' : F__law_like c 9 [.tup [lotD [(15, 0)], lotD [(15, 255)]], .tup [.tup [.tup [.int 15, .int 0]], .tup [.tup [.int 15, .int 255]]]] S4 = .ok (.bl true) S4 := lk2
  simp [eAnd, eFn, aC, aN, eV, eC, eTup, dl__law_like, dl_states_of, dl_pairs_of, p3, lk1, p1, p2, lk2', tru]
end Z.k01
open PySem PySem.W PyProof.Rows
open_top hd01 for PySem.Challenge.rw_wholestrokes_k01_whole_things_and_what_t
namespace Z.k01
open PySem L2 Z
structure Tx (P : Program) (w : World) (K : PySem.W.Frag) (mg : Str → Option Value) (base : Heap) : Prop where
  d_is_integer : ∃ fd, FunD K "is_integer" "is_integer" (defArgs s_is_integer) (defBody s_is_integer) (defScope s_is_integer) [] [] (He.ga K "is_integer") fd
  m_is_integer : mg "is_integer" = some (.ref (He.ga K "is_integer"))
  d_is_number : ∃ fd, FunD K "is_number" "is_number" (defArgs s_is_number) (defBody s_is_number) (defScope s_is_number) [V.non] [] (He.ga K "is_number") fd
  m_is_number : mg "is_number" = some (.ref (He.ga K "is_number"))
  d_is_kind : ∃ fd, FunD K "is_kind" "is_kind" (defArgs s_is_kind) (defBody s_is_kind) (defScope s_is_kind) [] [] (He.ga K "is_kind") fd
  m_is_kind : mg "is_kind" = some (.ref (He.ga K "is_kind"))
  d_is_sequence : ∃ fd, FunD K "is_sequence" "is_sequence" (defArgs s_is_sequence) (defBody s_is_sequence) (defScope s_is_sequence) [] [] (He.ga K "is_sequence") fd
  m_is_sequence : mg "is_sequence" = some (.ref (He.ga K "is_sequence"))
  d_is_ascending : ∃ fd, FunD K "is_ascending" "is_ascending" (defArgs s_is_ascending) (defBody s_is_ascending) (defScope s_is_ascending) [] [] (He.ga K "is_ascending") fd
  m_is_ascending : mg "is_ascending" = some (.ref (He.ga K "is_ascending"))
  d_is_call_row : ∃ fd, FunD K "is_call_row" "is_call_row" (defArgs s_is_call_row) (defBody s_is_call_row) (defScope s_is_call_row) [] [] (He.ga K "is_call_row") fd
  m_is_call_row : mg "is_call_row" = some (.ref (He.ga K "is_call_row"))
  d_is_pair_of : ∃ fd, FunD K "is_pair_of" "is_pair_of" (defArgs s_is_pair_of) (defBody s_is_pair_of) (defScope s_is_pair_of) [] [] (He.ga K "is_pair_of") fd
  m_is_pair_of : mg "is_pair_of" = some (.ref (He.ga K "is_pair_of"))
  d_are_pairs : ∃ fd, FunD K "are_pairs" "are_pairs" (defArgs s_are_pairs) (defBody s_are_pairs) (defScope s_are_pairs) [] [] (He.ga K "are_pairs") fd
  m_are_pairs : mg "are_pairs" = some (.ref (He.ga K "are_pairs"))
  d_wrong_entry : ∃ fd, FunD K "wrong_entry" "wrong_entry" (defArgs s_wrong_entry) (defBody s_wrong_entry) (defScope s_wrong_entry) [] [] (He.ga K "wrong_entry") fd
  m_wrong_entry : mg "wrong_entry" = some (.ref (He.ga K "wrong_entry"))
  d_Thing_mk : ∃ fd, FunD K "__init__" "Thing.__init__" (defArgs s_Thing_mk) (defBody s_Thing_mk) (defScope s_Thing_mk) [] [] (He.ma K (He.ga K "Thing") "__init__") fd
  d_states_of : ∃ fd, FunD K "states_of" "states_of" (defArgs s_states_of) (defBody s_states_of) (defScope s_states_of) [] [] (He.ga K "states_of") fd
  m_states_of : mg "states_of" = some (.ref (He.ga K "states_of"))
  d_is_call : ∃ fd, FunD K "is_call" "is_call" (defArgs s_is_call) (defBody s_is_call) (defScope s_is_call) [] [] (He.ga K "is_call") fd
  m_is_call : mg "is_call" = some (.ref (He.ga K "is_call"))
  d_calls_of : ∃ fd, FunD K "calls_of" "calls_of" (defArgs s_calls_of) (defBody s_calls_of) (defScope s_calls_of) [] [] (He.ga K "calls_of") fd
  m_calls_of : mg "calls_of" = some (.ref (He.ga K "calls_of"))
  d_pairs_of : ∃ fd, FunD K "pairs_of" "pairs_of" (defArgs s_pairs_of) (defBody s_pairs_of) (defScope s_pairs_of) [] [] (He.ga K "pairs_of") fd
  m_pairs_of : mg "pairs_of" = some (.ref (He.ga K "pairs_of"))
  d_is_sure : ∃ fd, FunD K "is_sure" "is_sure" (defArgs s_is_sure) (defBody s_is_sure) (defScope s_is_sure) [] [] (He.ga K "is_sure") fd
  m_is_sure : mg "is_sure" = some (.ref (He.ga K "is_sure"))
  d_is_part : ∃ fd, FunD K "is_part" "is_part" (defArgs s_is_part) (defBody s_is_part) (defScope s_is_part) [] [] (He.ga K "is_part") fd
  m_is_part : mg "is_part" = some (.ref (He.ga K "is_part"))
  d_unlike_pairs : ∃ fd, FunD K "unlike_pairs" "unlike_pairs" (defArgs s_unlike_pairs) (defBody s_unlike_pairs) (defScope s_unlike_pairs) [] [] (He.ga K "unlike_pairs") fd
  m_unlike_pairs : mg "unlike_pairs" = some (.ref (He.ga K "unlike_pairs"))
  d_reached_states : ∃ fd, FunD K "reached_states" "reached_states" (defArgs s_reached_states) (defBody s_reached_states) (defScope s_reached_states) [] [] (He.ga K "reached_states") fd
  m_reached_states : mg "reached_states" = some (.ref (He.ga K "reached_states"))
  d__law_heap : ∃ fd, FunD K "_law_heap" "_law_heap" (defArgs s__law_heap) (defBody s__law_heap) (defScope s__law_heap) [] [] (He.ga K "_law_heap") fd
  m__law_heap : mg "_law_heap" = some (.ref (He.ga K "_law_heap"))
  d__law_draw : ∃ fd, FunD K "_law_draw" "_law_draw" (defArgs s__law_draw) (defBody s__law_draw) (defScope s__law_draw) [] [] (He.ga K "_law_draw") fd
  m__law_draw : mg "_law_draw" = some (.ref (He.ga K "_law_draw"))
  d__law_pick : ∃ fd, FunD K "_law_pick" "_law_pick" (defArgs s__law_pick) (defBody s__law_pick) (defScope s__law_pick) [] [] (He.ga K "_law_pick") fd
  m__law_pick : mg "_law_pick" = some (.ref (He.ga K "_law_pick"))
  d__law_like : ∃ fd, FunD K "_law_like" "_law_like" (defArgs s__law_like) (defBody s__law_like) (defScope s__law_like) [] [] (He.ga K "_law_like") fd
  m__law_like : mg "_law_like" = some (.ref (He.ga K "_law_like"))
  d__law_thing : ∃ fd, FunD K "_law_thing" "_law_thing" (defArgs s__law_thing) (defBody s__law_thing) (defScope s__law_thing) [] [] (He.ga K "_law_thing") fd
  m__law_thing : mg "_law_thing" = some (.ref (He.ga K "_law_thing"))
  d__law_tried : ∃ fd, FunD K "_law_tried" "_law_tried" (defArgs s__law_tried) (defBody s__law_tried) (defScope s__law_tried) [] [] (He.ga K "_law_tried") fd
  m__law_tried : mg "_law_tried" = some (.ref (He.ga K "_law_tried"))
  d__law_listed : ∃ fd, FunD K "_law_listed" "_law_listed" (defArgs s__law_listed) (defBody s__law_listed) (defScope s__law_listed) [] [] (He.ga K "_law_listed") fd
  m__law_listed : mg "_law_listed" = some (.ref (He.ga K "_law_listed"))
  d__law_checked : ∃ fd, FunD K "_law_checked" "_law_checked" (defArgs s__law_checked) (defBody s__law_checked) (defScope s__law_checked) [] [] (He.ga K "_law_checked") fd
  m__law_checked : mg "_law_checked" = some (.ref (He.ga K "_law_checked"))
  d__law_reached : ∃ fd, FunD K "_law_reached" "_law_reached" (defArgs s__law_reached) (defBody s__law_reached) (defScope s__law_reached) [] [] (He.ga K "_law_reached") fd
  m__law_reached : mg "_law_reached" = some (.ref (He.ga K "_law_reached"))
  d_law : ∃ fd, FunD K "law" "law" (defArgs s_law) (defBody s_law) (defScope s_law) [] [] (He.ga K "law") fd
  m_law : mg "law" = some (.ref (He.ga K "law"))
  m_Thing : mg "Thing" = some (.ref (He.ga K "Thing"))
  m_StrokesError : mg "StrokesError" = some (.ref (He.ga K "StrokesError"))
  m_InvalidThing : mg "InvalidThing" = some (.ref (He.ga K "InvalidThing"))
  cl_Thing : Cls K (He.ga K "Thing")
  mk_Thing : Mk K (He.ga K "Thing") (He.ma K (He.ga K "Thing") "__init__")
  b_abs : mg "abs" = none
  b_all : mg "all" = none
  b_bool : mg "bool" = none
  b_enumerate : mg "enumerate" = none
  b_int : mg "int" = none
  b_isinstance : mg "isinstance" = none
  b_len : mg "len" = none
  b_list : mg "list" = none
  b_max : mg "max" = none
  b_range : mg "range" = none
  b_set : mg "set" = none
  b_sorted : mg "sorted" = none
  b_str : mg "str" = none
  b_super : mg "super" = none
  b_tuple : mg "tuple" = none
  b_zip : mg "zip" = none
  c_MOST_CALLS : ∃ t, mg "MOST_CALLS" = some (.int 12 t)
  c_MOST_STATES : ∃ t, mg "MOST_STATES" = some (.int 256 t)
  kit : Kit K (ad K).cs
  na_calls : NoAtt K (ad K).cs "calls"
  na_table : NoAtt K (ad K).cs "table"
  e_InvalidThing : ErrC K P (He.ga K "InvalidThing")
  xa : ∀ C ∈ (ad K).es, XfC K C ∧ PySem.W.findIn K (.ref C) "at" = some none
  mt_StrokesError : ∀ C b, (ad K).mt_StrokesError C = some b → PySem.W.exmOne K (.ref C) (.ref (ad K).StrokesError) = some b
  is_StrokesError : ∀ C b, (ad K).is_StrokesError C = some b → ExcC K C ∧ PySem.W.kitOne K (.ref C) (.ref (ad K).StrokesError) = some b
  mt_InvalidThing : ∀ C b, (ad K).mt_InvalidThing C = some b → PySem.W.exmOne K (.ref C) (.ref (ad K).InvalidThing) = some b
  is_InvalidThing : ∀ C b, (ad K).is_InvalidThing C = some b → ExcC K C ∧ PySem.W.kitOne K (.ref C) (.ref (ad K).InvalidThing) = some b
def dd0 : He.DefD := ⟨("", none), "", "", { posonlyargs := [], args := [], vararg := none, kwonlyargs := [], kw_defaults := [], kwarg := none, defaults := [] }, [], { kind := .function, names := [], isGenerator := false, isCoroutine := false, more := [] }, [], []⟩
def fa_k01 : List He.Fa := [.glo "is_integer", .glo "is_number", .glo "is_kind", .glo "is_sequence", .glo "is_ascending", .glo "is_call_row", .glo "is_pair_of", .glo "are_pairs", .glo "wrong_entry", .glo "states_of", .glo "is_call", .glo "calls_of", .glo "pairs_of", .glo "is_sure", .glo "is_part", .glo "unlike_pairs", .glo "reached_states", .glo "_law_heap", .glo "_law_draw", .glo "_law_pick", .glo "_law_like", .glo "_law_thing", .glo "_law_tried", .glo "_law_listed", .glo "_law_checked", .glo "_law_reached", .glo "law", .glo "Thing", .glo "StrokesError", .glo "InvalidThing", .cls "Thing", .mkr "Thing", .free "abs", .free "all", .free "bool", .free "enumerate", .free "int", .free "isinstance", .free "len", .free "list", .free "max", .free "range", .free "set", .free "sorted", .free "str", .free "super", .free "tuple", .free "zip", .int "MOST_CALLS" 12, .int "MOST_STATES" 256, .noat "InvalidThing" "at", .exm "InvalidThing" "StrokesError" true, .exm "InvalidThing" "InvalidThing" true]
def fn_k01 : List He.DefD := [⟨("is_integer", none), "is_integer", "is_integer", defArgs s_is_integer, defBody s_is_integer, defScope s_is_integer, [], []⟩,
  ⟨("is_number", none), "is_number", "is_number", defArgs s_is_number, defBody s_is_number, defScope s_is_number, [.non], []⟩,
  ⟨("is_kind", none), "is_kind", "is_kind", defArgs s_is_kind, defBody s_is_kind, defScope s_is_kind, [], []⟩,
  ⟨("is_sequence", none), "is_sequence", "is_sequence", defArgs s_is_sequence, defBody s_is_sequence, defScope s_is_sequence, [], []⟩,
  ⟨("is_ascending", none), "is_ascending", "is_ascending", defArgs s_is_ascending, defBody s_is_ascending, defScope s_is_ascending, [], []⟩,
  ⟨("is_call_row", none), "is_call_row", "is_call_row", defArgs s_is_call_row, defBody s_is_call_row, defScope s_is_call_row, [], []⟩,
  ⟨("is_pair_of", none), "is_pair_of", "is_pair_of", defArgs s_is_pair_of, defBody s_is_pair_of, defScope s_is_pair_of, [], []⟩,
  ⟨("are_pairs", none), "are_pairs", "are_pairs", defArgs s_are_pairs, defBody s_are_pairs, defScope s_are_pairs, [], []⟩,
  ⟨("wrong_entry", none), "wrong_entry", "wrong_entry", defArgs s_wrong_entry, defBody s_wrong_entry, defScope s_wrong_entry, [], []⟩,
  ⟨("Thing", some "__init__"), "__init__", "Thing.__init__", defArgs s_Thing_mk, defBody s_Thing_mk, defScope s_Thing_mk, [], []⟩,
  ⟨("states_of", none), "states_of", "states_of", defArgs s_states_of, defBody s_states_of, defScope s_states_of, [], []⟩,
  ⟨("is_call", none), "is_call", "is_call", defArgs s_is_call, defBody s_is_call, defScope s_is_call, [], []⟩,
  ⟨("calls_of", none), "calls_of", "calls_of", defArgs s_calls_of, defBody s_calls_of, defScope s_calls_of, [], []⟩,
  ⟨("pairs_of", none), "pairs_of", "pairs_of", defArgs s_pairs_of, defBody s_pairs_of, defScope s_pairs_of, [], []⟩,
  ⟨("is_sure", none), "is_sure", "is_sure", defArgs s_is_sure, defBody s_is_sure, defScope s_is_sure, [], []⟩,
  ⟨("is_part", none), "is_part", "is_part", defArgs s_is_part, defBody s_is_part, defScope s_is_part, [], []⟩,
  ⟨("unlike_pairs", none), "unlike_pairs", "unlike_pairs", defArgs s_unlike_pairs, defBody s_unlike_pairs, defScope s_unlike_pairs, [], []⟩,
  ⟨("reached_states", none), "reached_states", "reached_states", defArgs s_reached_states, defBody s_reached_states, defScope s_reached_states, [], []⟩,
  ⟨("_law_heap", none), "_law_heap", "_law_heap", defArgs s__law_heap, defBody s__law_heap, defScope s__law_heap, [], []⟩,
  ⟨("_law_draw", none), "_law_draw", "_law_draw", defArgs s__law_draw, defBody s__law_draw, defScope s__law_draw, [], []⟩,
  ⟨("_law_pick", none), "_law_pick", "_law_pick", defArgs s__law_pick, defBody s__law_pick, defScope s__law_pick, [], []⟩,
  ⟨("_law_like", none), "_law_like", "_law_like", defArgs s__law_like, defBody s__law_like, defScope s__law_like, [], []⟩,
  ⟨("_law_thing", none), "_law_thing", "_law_thing", defArgs s__law_thing, defBody s__law_thing, defScope s__law_thing, [], []⟩,
  ⟨("_law_tried", none), "_law_tried", "_law_tried", defArgs s__law_tried, defBody s__law_tried, defScope s__law_tried, [], []⟩,
  ⟨("_law_listed", none), "_law_listed", "_law_listed", defArgs s__law_listed, defBody s__law_listed, defScope s__law_listed, [], []⟩,
  ⟨("_law_checked", none), "_law_checked", "_law_checked", defArgs s__law_checked, defBody s__law_checked, defScope s__law_checked, [], []⟩,
  ⟨("_law_reached", none), "_law_reached", "_law_reached", defArgs s__law_reached, defBody s__law_reached, defScope s__law_reached, [], []⟩,
  ⟨("law", none), "law", "law", defArgs s_law, defBody s_law, defScope s_law, [], []⟩]
def ex_k01 (P : Program) (K : PySem.W.Frag) : List Bool := [kitB K ["Thing"], noAttB K ["Thing"] "calls", noAttB K ["Thing"] "table", errB K P "InvalidThing", He_xfB K "InvalidThing", kitOneB K "InvalidThing" "StrokesError" true, excCB K "InvalidThing", kitOneB K "InvalidThing" "InvalidThing" true]
def hE_InvalidThing (K : PySem.W.Frag) : Prop := He.fnW K ("InvalidThing", some "__init__") = some ((("__init__" : Str), ("InvalidThing.__init__" : Str), eiArgs ⟨6, 17, 6, 21⟩ ⟨6, 23, 6, 25⟩, FuncBody.stmts (eiBody ⟨7, 8, 7, 13⟩ ⟨7, 8, 7, 15⟩ ⟨7, 8, 7, 24⟩ ⟨7, 25, 7, 27⟩ ⟨7, 8, 7, 28⟩ ⟨7, 8, 7, 28⟩ ⟨8, 8, 8, 12⟩ ⟨8, 8, 8, 15⟩ ⟨8, 18, 8, 20⟩ ⟨8, 8, 8, 20⟩), eiScope, mainGlobals, [(("__class__" : Str), cel K "InvalidThing")], builtinsNs) : Str × Str × Arguments × FuncBody × Scope × Addr × List (Str × Addr) × Addr)
theorem tx_of {P : Program} {w : World} {K : PySem.W.Frag} {mg : Str → Option Value} {base h : Heap} (X : K.In h) (G : h.Ns mainGlobals mg) (c : He.SaysD fa_k01 fn_k01 K) (e : (ex_k01 P K).all id = true) (h_InvalidThing : hE_InvalidThing K) : Tx P w K mg base where
  d_is_integer := c.def_ 0 (d := fn_k01.getD 0 dd0) rfl
  m_is_integer := He.glo_ok X G (c.fact 0 (f := .glo "is_integer") rfl)
  d_is_number := c.def_ 1 (d := fn_k01.getD 1 dd0) rfl
  m_is_number := He.glo_ok X G (c.fact 1 (f := .glo "is_number") rfl)
  d_is_kind := c.def_ 2 (d := fn_k01.getD 2 dd0) rfl
  m_is_kind := He.glo_ok X G (c.fact 2 (f := .glo "is_kind") rfl)
  d_is_sequence := c.def_ 3 (d := fn_k01.getD 3 dd0) rfl
  m_is_sequence := He.glo_ok X G (c.fact 3 (f := .glo "is_sequence") rfl)
  d_is_ascending := c.def_ 4 (d := fn_k01.getD 4 dd0) rfl
  m_is_ascending := He.glo_ok X G (c.fact 4 (f := .glo "is_ascending") rfl)
  d_is_call_row := c.def_ 5 (d := fn_k01.getD 5 dd0) rfl
  m_is_call_row := He.glo_ok X G (c.fact 5 (f := .glo "is_call_row") rfl)
  d_is_pair_of := c.def_ 6 (d := fn_k01.getD 6 dd0) rfl
  m_is_pair_of := He.glo_ok X G (c.fact 6 (f := .glo "is_pair_of") rfl)
  d_are_pairs := c.def_ 7 (d := fn_k01.getD 7 dd0) rfl
  m_are_pairs := He.glo_ok X G (c.fact 7 (f := .glo "are_pairs") rfl)
  d_wrong_entry := c.def_ 8 (d := fn_k01.getD 8 dd0) rfl
  m_wrong_entry := He.glo_ok X G (c.fact 8 (f := .glo "wrong_entry") rfl)
  d_Thing_mk := c.def_ 9 (d := fn_k01.getD 9 dd0) rfl
  d_states_of := c.def_ 10 (d := fn_k01.getD 10 dd0) rfl
  m_states_of := He.glo_ok X G (c.fact 9 (f := .glo "states_of") rfl)
  d_is_call := c.def_ 11 (d := fn_k01.getD 11 dd0) rfl
  m_is_call := He.glo_ok X G (c.fact 10 (f := .glo "is_call") rfl)
  d_calls_of := c.def_ 12 (d := fn_k01.getD 12 dd0) rfl
  m_calls_of := He.glo_ok X G (c.fact 11 (f := .glo "calls_of") rfl)
  d_pairs_of := c.def_ 13 (d := fn_k01.getD 13 dd0) rfl
  m_pairs_of := He.glo_ok X G (c.fact 12 (f := .glo "pairs_of") rfl)
  d_is_sure := c.def_ 14 (d := fn_k01.getD 14 dd0) rfl
  m_is_sure := He.glo_ok X G (c.fact 13 (f := .glo "is_sure") rfl)
  d_is_part := c.def_ 15 (d := fn_k01.getD 15 dd0) rfl
  m_is_part := He.glo_ok X G (c.fact 14 (f := .glo "is_part") rfl)
  d_unlike_pairs := c.def_ 16 (d := fn_k01.getD 16 dd0) rfl
  m_unlike_pairs := He.glo_ok X G (c.fact 15 (f := .glo "unlike_pairs") rfl)
  d_reached_states := c.def_ 17 (d := fn_k01.getD 17 dd0) rfl
  m_reached_states := He.glo_ok X G (c.fact 16 (f := .glo "reached_states") rfl)
  d__law_heap := c.def_ 18 (d := fn_k01.getD 18 dd0) rfl
  m__law_heap := He.glo_ok X G (c.fact 17 (f := .glo "_law_heap") rfl)
  d__law_draw := c.def_ 19 (d := fn_k01.getD 19 dd0) rfl
  m__law_draw := He.glo_ok X G (c.fact 18 (f := .glo "_law_draw") rfl)
  d__law_pick := c.def_ 20 (d := fn_k01.getD 20 dd0) rfl
  m__law_pick := He.glo_ok X G (c.fact 19 (f := .glo "_law_pick") rfl)
  d__law_like := c.def_ 21 (d := fn_k01.getD 21 dd0) rfl
  m__law_like := He.glo_ok X G (c.fact 20 (f := .glo "_law_like") rfl)
  d__law_thing := c.def_ 22 (d := fn_k01.getD 22 dd0) rfl
  m__law_thing := He.glo_ok X G (c.fact 21 (f := .glo "_law_thing") rfl)
  d__law_tried := c.def_ 23 (d := fn_k01.getD 23 dd0) rfl
  m__law_tried := He.glo_ok X G (c.fact 22 (f := .glo "_law_tried") rfl)
  d__law_listed := c.def_ 24 (d := fn_k01.getD 24 dd0) rfl
  m__law_listed := He.glo_ok X G (c.fact 23 (f := .glo "_law_listed") rfl)
  d__law_checked := c.def_ 25 (d := fn_k01.getD 25 dd0) rfl
  m__law_checked := He.glo_ok X G (c.fact 24 (f := .glo "_law_checked") rfl)
  d__law_reached := c.def_ 26 (d := fn_k01.getD 26 dd0) rfl
  m__law_reached := He.glo_ok X G (c.fact 25 (f := .glo "_law_reached") rfl)
  d_law := c.def_ 27 (d := fn_k01.getD 27 dd0) rfl
  m_law := He.glo_ok X G (c.fact 26 (f := .glo "law") rfl)
  m_Thing := He.glo_ok X G (c.fact 27 (f := .glo "Thing") rfl)
  m_StrokesError := He.glo_ok X G (c.fact 28 (f := .glo "StrokesError") rfl)
  m_InvalidThing := He.glo_ok X G (c.fact 29 (f := .glo "InvalidThing") rfl)
  cl_Thing := He.cls_ok (c.fact 30 (f := .cls "Thing") rfl)
  mk_Thing := He.mkr_ok (c.fact 31 (f := .mkr "Thing") rfl)
  b_abs := He.free_ok X G (c.fact 32 (f := .free "abs") rfl)
  b_all := He.free_ok X G (c.fact 33 (f := .free "all") rfl)
  b_bool := He.free_ok X G (c.fact 34 (f := .free "bool") rfl)
  b_enumerate := He.free_ok X G (c.fact 35 (f := .free "enumerate") rfl)
  b_int := He.free_ok X G (c.fact 36 (f := .free "int") rfl)
  b_isinstance := He.free_ok X G (c.fact 37 (f := .free "isinstance") rfl)
  b_len := He.free_ok X G (c.fact 38 (f := .free "len") rfl)
  b_list := He.free_ok X G (c.fact 39 (f := .free "list") rfl)
  b_max := He.free_ok X G (c.fact 40 (f := .free "max") rfl)
  b_range := He.free_ok X G (c.fact 41 (f := .free "range") rfl)
  b_set := He.free_ok X G (c.fact 42 (f := .free "set") rfl)
  b_sorted := He.free_ok X G (c.fact 43 (f := .free "sorted") rfl)
  b_str := He.free_ok X G (c.fact 44 (f := .free "str") rfl)
  b_super := He.free_ok X G (c.fact 45 (f := .free "super") rfl)
  b_tuple := He.free_ok X G (c.fact 46 (f := .free "tuple") rfl)
  b_zip := He.free_ok X G (c.fact 47 (f := .free "zip") rfl)
  c_MOST_CALLS := He.int_ok X G (c.fact 48 (f := .int "MOST_CALLS" 12) rfl)
  c_MOST_STATES := He.int_ok X G (c.fact 49 (f := .int "MOST_STATES" 256) rfl)
  kit := kitB_ok (exB e 0 (x := kitB K ["Thing"]) rfl)
  na_calls := noAttB_ok (exB e 1 (x := noAttB K ["Thing"] "calls") rfl)
  na_table := noAttB_ok (exB e 2 (x := noAttB K ["Thing"] "table") rfl)
  e_InvalidThing := errB_ok (exB e 3 (x := errB K P "InvalidThing") rfl) (fun env => ⟨_, rfl⟩) ⟨_, h_InvalidThing⟩
  xa := fun C hC => by
    simp only [List.mem_cons, List.not_mem_nil, or_false] at hC
    · subst hC; exact ⟨xfB_ok (exB e 4 (x := He_xfB K "InvalidThing") rfl), He.noat_ok (c.fact 50 (f := .noat "InvalidThing" "at") rfl)⟩
  mt_StrokesError := fun C b h => by
    unfold Ad.mt_StrokesError at h
    by_cases h_InvalidThing : C = (ad K).InvalidThing
    · rw [if_pos h_InvalidThing] at h; cases h; subst h_InvalidThing; exact He.exm_ok (c.fact 51 (f := .exm "InvalidThing" "StrokesError" true) rfl)
    rw [if_neg h_InvalidThing] at h
    cases h
  is_StrokesError := fun C b h => by
    unfold Ad.is_StrokesError at h
    by_cases h_InvalidThing : C = (ad K).InvalidThing
    · rw [if_pos h_InvalidThing] at h; cases h; subst h_InvalidThing; exact ⟨excCB_ok (exB e 6 (x := excCB K "InvalidThing") rfl), kitOneB_ok (exB e 5 (x := kitOneB K "InvalidThing" "StrokesError" true) rfl)⟩
    rw [if_neg h_InvalidThing] at h
    cases h
  mt_InvalidThing := fun C b h => by
    unfold Ad.mt_InvalidThing at h
    by_cases h_InvalidThing : C = (ad K).InvalidThing
    · rw [if_pos h_InvalidThing] at h; cases h; subst h_InvalidThing; exact He.exm_ok (c.fact 52 (f := .exm "InvalidThing" "InvalidThing" true) rfl)
    rw [if_neg h_InvalidThing] at h
    cases h
  is_InvalidThing := fun C b h => by
    unfold Ad.is_InvalidThing at h
    by_cases h_InvalidThing : C = (ad K).InvalidThing
    · rw [if_pos h_InvalidThing] at h; cases h; subst h_InvalidThing; exact ⟨excCB_ok (exB e 6 (x := excCB K "InvalidThing") rfl), kitOneB_ok (exB e 7 (x := kitOneB K "InvalidThing" "InvalidThing" true) rfl)⟩
    rw [if_neg h_InvalidThing] at h
    cases h
theorem sc_is_integer : FnScope ["value"] ["value"] (defScope s_is_integer) := ⟨rfl, rfl, rfl, by decide +kernel, rfl, by decide +kernel, by decide +kernel⟩
theorem fn_is_integer {P : Program} {w : World} {K : PySem.W.Frag} {mg : Str → Option Value} {base : Heap} (T : Tx P w K mg base) {fd : FuncData} (fdd : FunD K "is_integer" "is_integer" (defArgs s_is_integer) (defBody s_is_integer) (defScope s_is_integer) [] [] (He.ga K "is_integer") fd) : FnOk P w K mg base (L2.CX P w) 1 (He.ga K "is_integer") fd ["value"] (spI K 1 (F_is_integer (ad K))) :=
  zfn (k := 0) (den := den_is_integer (ad K)) fdd sc_is_integer rfl (fun cdv A outer s H E G => (zb_one (zs_ret (ze_and (ze_isi T.kit T.b_isinstance (za_cons (ze_var 0) (za_cons (ze_ty T.b_int) za_nil))) (ze_one (ze_not (ze_isi T.kit T.b_isinstance (za_cons (ze_var 0) (za_cons (ze_ty T.b_bool) za_nil))))))))) (fun ds S _ _ _ => Ref.same rfl)
theorem ok_is_integer {P : Program} {w : World} {K : PySem.W.Frag} {mg : Str → Option Value} {base : Heap} (T : Tx P w K mg base) : Df P w K mg base "is_integer" 1 1 (F_is_integer (ad K)) dl_is_integer := by
  obtain ⟨fd, fdd⟩ := T.d_is_integer
  exact ⟨_, fd, _, fn_is_integer T fdd, T.m_is_integer, fdd.kp, (binds_none fdd fun _ _ _ _ _ _ us hl => match us, hl with | [_], _ => rfl)⟩
theorem sc_is_number : FnScope ["value", "most"] ["value", "most"] (defScope s_is_number) := ⟨rfl, rfl, rfl, by decide +kernel, rfl, by decide +kernel, by decide +kernel⟩
theorem bd_is_number {K : PySem.W.Frag} {f : Addr} {fd : FuncData} (F : FunD K "is_number" "is_number" (defArgs s_is_number) (defBody s_is_number) (defScope s_is_number) [V.non] [] f fd) : ∀ j, j ≤ dl_is_number.length → ∃ ds dvs, Binds K fd ["value", "most"] ds ∧ Vals dvs ds ∧ ∀ m B H, RDs K m B H (dl_is_number.drop j) dvs
  | 0, _ => by
    obtain ⟨ds, h1, h2⟩ := FunD.binds1 (ps := ["value", "most"]) F 1 0 (by decide) rfl fun _ _ _ _ _ _ _ us its hu hi => match us, its, hu, hi with | [_], [_], _, _ => ⟨_, rfl, rfl⟩
    exact ⟨ds, _, h2, h1, fun _ _ _ => (RDs.cons (RDn) RDs.nil)⟩
  | 1, _ => by
    obtain ⟨ds, h1, h2⟩ := FunD.binds1 (ps := ["value", "most"]) F 2 1 (by decide) rfl fun _ _ _ _ _ _ _ us its hu hi => match us, its, hu, hi with | [_, _], [_], _, _ => ⟨_, rfl, rfl⟩
    exact ⟨ds, _, h2, h1, fun _ _ _ => RDs.nil⟩
  | j + 2, h => absurd h (by show ¬ j + 2 ≤ 1; omega)
theorem fn_is_number {P : Program} {w : World} {K : PySem.W.Frag} {mg : Str → Option Value} {base : Heap} (T : Tx P w K mg base) {fd : FuncData} (fdd : FunD K "is_number" "is_number" (defArgs s_is_number) (defBody s_is_number) (defScope s_is_number) [V.non] [] (He.ga K "is_number") fd) : FnOk P w K mg base (L2.CX P w) 2 (He.ga K "is_number") fd ["value", "most"] (spI K 2 (F_is_number (ad K))) :=
  zfn (k := 1) (den := den_is_number (ad K)) fdd sc_is_number rfl (fun cdv A outer s H E G => (zb_one (zs_ret (ze_and (zd_call (ok_is_integer T) 0 (G.room.mono (by decide)) (za_cons (ze_var 0) za_nil)) (ze_and (ze_ge (ze_var 0) ze_int) (ze_one (ze_or (ze_isN (ze_var 1)) (ze_one (ze_le (ze_var 0) (ze_var 1)))))))))) (fun ds S _ _ _ => Ref.same rfl)
theorem ok_is_number {P : Program} {w : World} {K : PySem.W.Frag} {mg : Str → Option Value} {base : Heap} (T : Tx P w K mg base) : Df P w K mg base "is_number" 2 2 (F_is_number (ad K)) dl_is_number := by
  obtain ⟨fd, fdd⟩ := T.d_is_number
  exact ⟨_, fd, _, fn_is_number T fdd, T.m_is_number, fdd.kp, bd_is_number fdd⟩
theorem sc_is_kind : FnScope ["value"] ["value"] (defScope s_is_kind) := ⟨rfl, rfl, rfl, by decide +kernel, rfl, by decide +kernel, by decide +kernel⟩
theorem fn_is_kind {P : Program} {w : World} {K : PySem.W.Frag} {mg : Str → Option Value} {base : Heap} (T : Tx P w K mg base) {fd : FuncData} (fdd : FunD K "is_kind" "is_kind" (defArgs s_is_kind) (defBody s_is_kind) (defScope s_is_kind) [] [] (He.ga K "is_kind") fd) : FnOk P w K mg base (L2.CX P w) 3 (He.ga K "is_kind") fd ["value"] (spI K 1 (F_is_kind (ad K))) :=
  zfn (k := 2) (den := den_is_kind (ad K)) fdd sc_is_kind rfl (fun cdv A outer s H E G => (zb_one (zs_ret (ze_and (zd_call (ok_is_number T) 1 (G.room.mono (by decide)) (za_cons (ze_var 0) (za_cons ze_int za_nil))) (ze_one (ze_gt (ze_var 0) ze_int)))))) (fun ds S _ _ _ => Ref.same rfl)
theorem ok_is_kind {P : Program} {w : World} {K : PySem.W.Frag} {mg : Str → Option Value} {base : Heap} (T : Tx P w K mg base) : Df P w K mg base "is_kind" 3 1 (F_is_kind (ad K)) dl_is_kind := by
  obtain ⟨fd, fdd⟩ := T.d_is_kind
  exact ⟨_, fd, _, fn_is_kind T fdd, T.m_is_kind, fdd.kp, (binds_none fdd fun _ _ _ _ _ _ us hl => match us, hl with | [_], _ => rfl)⟩
theorem sc_is_sequence : FnScope ["value"] ["value"] (defScope s_is_sequence) := ⟨rfl, rfl, rfl, by decide +kernel, rfl, by decide +kernel, by decide +kernel⟩
theorem fn_is_sequence {P : Program} {w : World} {K : PySem.W.Frag} {mg : Str → Option Value} {base : Heap} (T : Tx P w K mg base) {fd : FuncData} (fdd : FunD K "is_sequence" "is_sequence" (defArgs s_is_sequence) (defBody s_is_sequence) (defScope s_is_sequence) [] [] (He.ga K "is_sequence") fd) : FnOk P w K mg base (L2.CX P w) 1 (He.ga K "is_sequence") fd ["value"] (spI K 1 (F_is_sequence (ad K))) :=
  zfn (k := 0) (den := den_is_sequence (ad K)) fdd sc_is_sequence rfl (fun cdv A outer s H E G => (zb_one (zs_ret (ze_isi T.kit T.b_isinstance (za_cons (ze_var 0) (za_cons (ze_tup (za_cons (ze_ty T.b_list) (za_cons (ze_ty T.b_tuple) za_nil)) (lenA_cons (lenA_cons lenA_nil))) za_nil)))))) (fun ds S _ _ _ => Ref.same rfl)
theorem ok_is_sequence {P : Program} {w : World} {K : PySem.W.Frag} {mg : Str → Option Value} {base : Heap} (T : Tx P w K mg base) : Df P w K mg base "is_sequence" 1 1 (F_is_sequence (ad K)) dl_is_sequence := by
  obtain ⟨fd, fdd⟩ := T.d_is_sequence
  exact ⟨_, fd, _, fn_is_sequence T fdd, T.m_is_sequence, fdd.kp, (binds_none fdd fun _ _ _ _ _ _ us hl => match us, hl with | [_], _ => rfl)⟩
theorem sc_is_ascending : FnScope ["row", "at"] ["row"] (defScope s_is_ascending) := ⟨rfl, rfl, rfl, by decide +kernel, rfl, by decide +kernel, by decide +kernel⟩
theorem fn_is_ascending {P : Program} {w : World} {K : PySem.W.Frag} {mg : Str → Option Value} {base : Heap} (T : Tx P w K mg base) {fd : FuncData} (fdd : FunD K "is_ascending" "is_ascending" (defArgs s_is_ascending) (defBody s_is_ascending) (defScope s_is_ascending) [] [] (He.ga K "is_ascending") fd) : FnOk P w K mg base (L2.CX P w) 1 (He.ga K "is_ascending") fd ["row"] (spI K 1 (F_is_ascending (ad K))) :=
  zfn (k := 0) (den := den_is_ascending (ad K)) fdd sc_is_ascending rfl (fun cdv A outer s H E G => (zb_one (zs_ret (ze_all rfl T.b_all (za_cons (ze_lv (zl_lc (own := [("at", 1)]) rfl sc_is_ascending.nd (zi_r2 T.b_range (za_cons ze_int (za_cons (ze_len T.b_len (za_cons (ze_var 0) za_nil)) za_nil))) (blkOk_by (own := [("at", 1)]) (by kernel_rfl)) (by decide) (fun _ _ _ _ _ => (zg_nm sc_is_ascending.nd)) (fun _ _ _ _ _ => zts_nil) (fun _ _ _ _ _ => (ze_ltA (hu0 G.room) (ze_sub_ix (ze_var 0) (ze_sub (ze_var 1) ze_int)) (ze_sub_ix (ze_var 0) (ze_var 1)))))) za_nil))))) (fun ds S _ _ _ => Ref.same rfl)
theorem ok_is_ascending {P : Program} {w : World} {K : PySem.W.Frag} {mg : Str → Option Value} {base : Heap} (T : Tx P w K mg base) : Df P w K mg base "is_ascending" 1 1 (F_is_ascending (ad K)) dl_is_ascending := by
  obtain ⟨fd, fdd⟩ := T.d_is_ascending
  exact ⟨_, fd, _, fn_is_ascending T fdd, T.m_is_ascending, fdd.kp, (binds_none fdd fun _ _ _ _ _ _ us hl => match us, hl with | [_], _ => rfl)⟩
theorem sc_is_call_row : FnScope ["value", "kind"] ["value"] (defScope s_is_call_row) := ⟨rfl, rfl, rfl, by decide +kernel, rfl, by decide +kernel, by decide +kernel⟩
theorem fn_is_call_row {P : Program} {w : World} {K : PySem.W.Frag} {mg : Str → Option Value} {base : Heap} (T : Tx P w K mg base) {fd : FuncData} (fdd : FunD K "is_call_row" "is_call_row" (defArgs s_is_call_row) (defBody s_is_call_row) (defScope s_is_call_row) [] [] (He.ga K "is_call_row") fd) : FnOk P w K mg base (L2.CX P w) 4 (He.ga K "is_call_row") fd ["value"] (spI K 1 (F_is_call_row (ad K))) :=
  zfn (k := 3) (den := den_is_call_row (ad K)) fdd sc_is_call_row rfl (fun cdv A outer s H E G => (zb_one (zs_ret (ze_and (zd_call (ok_is_sequence T) 0 (G.room.mono (by decide)) (za_cons (ze_var 0) za_nil)) (ze_and (ze_eq G.room.units (ze_len T.b_len (za_cons (ze_var 0) za_nil)) ze_int) (ze_one (ze_all rfl T.b_all (za_cons (ze_lv (zl_lc (own := [("kind", 1)]) rfl sc_is_call_row.nd (zi_seq (ze_var 0)) (blkOk_by (own := [("kind", 1)]) (by kernel_rfl)) (by decide) (fun _ _ _ _ _ => (zg_nm sc_is_call_row.nd)) (fun _ _ _ _ _ => zts_nil) (fun _ _ _ _ _ => (zd_call (ok_is_kind T) 0 (G.room.mono (by decide)) (za_cons (ze_var 1) za_nil))))) za_nil)))))))) (fun ds S _ _ _ => Ref.same rfl)
theorem ok_is_call_row {P : Program} {w : World} {K : PySem.W.Frag} {mg : Str → Option Value} {base : Heap} (T : Tx P w K mg base) : Df P w K mg base "is_call_row" 4 1 (F_is_call_row (ad K)) dl_is_call_row := by
  obtain ⟨fd, fdd⟩ := T.d_is_call_row
  exact ⟨_, fd, _, fn_is_call_row T fdd, T.m_is_call_row, fdd.kp, (binds_none fdd fun _ _ _ _ _ _ us hl => match us, hl with | [_], _ => rfl)⟩
theorem sc_is_pair_of : FnScope ["value", "kind", "states"] ["value", "kind", "states"] (defScope s_is_pair_of) := ⟨rfl, rfl, rfl, by decide +kernel, rfl, by decide +kernel, by decide +kernel⟩
theorem fn_is_pair_of {P : Program} {w : World} {K : PySem.W.Frag} {mg : Str → Option Value} {base : Heap} (T : Tx P w K mg base) {fd : FuncData} (fdd : FunD K "is_pair_of" "is_pair_of" (defArgs s_is_pair_of) (defBody s_is_pair_of) (defScope s_is_pair_of) [] [] (He.ga K "is_pair_of") fd) : FnOk P w K mg base (L2.CX P w) 3 (He.ga K "is_pair_of") fd ["value", "kind", "states"] (spI K 3 (F_is_pair_of (ad K))) :=
  zfn (k := 2) (den := den_is_pair_of (ad K)) fdd sc_is_pair_of rfl (fun cdv A outer s H E G => (zb_cons (zs_if (zt_w (zw_or (zt_not (zt_val (ze_isi T.kit T.b_isinstance (za_cons (ze_var 0) (za_cons (ze_ty T.b_tuple) za_nil))))) (zw_or1 (zt_ne G.room.units (ze_len T.b_len (za_cons (ze_var 0) za_nil)) ze_int)))) (zb_one (zs_ret ze_bl)) zb_nil)
  (zb_one (zs_ret (ze_and (zd_call (ok_is_number T) 1 (G.room.mono (by decide)) (za_cons (ze_sub_ix (ze_var 0) ze_int) (za_cons (ze_sub (ze_var 1) ze_int) za_nil))) (ze_one (zd_call (ok_is_number T) 1 (G.room.mono (by decide)) (za_cons (ze_sub_ix (ze_var 0) ze_int) (za_cons (ze_sub (ze_var 2) ze_int) za_nil))))))))) (fun ds S _ _ _ => Ref.same rfl)
theorem ok_is_pair_of {P : Program} {w : World} {K : PySem.W.Frag} {mg : Str → Option Value} {base : Heap} (T : Tx P w K mg base) : Df P w K mg base "is_pair_of" 3 3 (F_is_pair_of (ad K)) dl_is_pair_of := by
  obtain ⟨fd, fdd⟩ := T.d_is_pair_of
  exact ⟨_, fd, _, fn_is_pair_of T fdd, T.m_is_pair_of, fdd.kp, (binds_none fdd fun _ _ _ _ _ _ us hl => match us, hl with | [_, _, _], _ => rfl)⟩
theorem sc_are_pairs : FnScope ["value", "kind", "states", "pair"] ["value", "kind", "states"] (defScope s_are_pairs) := ⟨rfl, rfl, rfl, by decide +kernel, rfl, by decide +kernel, by decide +kernel⟩
theorem fn_are_pairs {P : Program} {w : World} {K : PySem.W.Frag} {mg : Str → Option Value} {base : Heap} (T : Tx P w K mg base) {fd : FuncData} (fdd : FunD K "are_pairs" "are_pairs" (defArgs s_are_pairs) (defBody s_are_pairs) (defScope s_are_pairs) [] [] (He.ga K "are_pairs") fd) : FnOk P w K mg base (L2.CX P w) 4 (He.ga K "are_pairs") fd ["value", "kind", "states"] (spI K 3 (F_are_pairs (ad K))) :=
  zfn (k := 3) (den := den_are_pairs (ad K)) fdd sc_are_pairs rfl (fun cdv A outer s H E G => (zb_cons (zs_if (zt_w (zw_or (zt_not (zt_val (ze_isi T.kit T.b_isinstance (za_cons (ze_var 0) (za_cons (ze_ty T.b_tuple) za_nil))))) (zw_or1 (zt_eq G.room.units (ze_len T.b_len (za_cons (ze_var 0) za_nil)) ze_int)))) (zb_one (zs_ret ze_bl)) zb_nil)
  (zb_one (zs_ret (ze_and (ze_all rfl T.b_all (za_cons (ze_lv (zl_lc (own := [("pair", 3)]) rfl sc_are_pairs.nd (zi_seq (ze_var 0)) (blkOk_by (own := [("pair", 3)]) (by kernel_rfl)) (by decide) (fun _ _ _ _ _ => (zg_nm sc_are_pairs.nd)) (fun _ _ _ _ _ => zts_nil) (fun _ _ _ _ _ => (zd_call (ok_is_pair_of T) 0 (G.room.mono (by decide)) (za_cons (ze_var 3) (za_cons (ze_var 1) (za_cons (ze_var 2) za_nil))))))) za_nil)) (ze_one (zd_call (ok_is_ascending T) 0 (G.room.mono (by decide)) (za_cons (ze_var 0) za_nil)))))))) (fun ds S _ _ _ => Ref.same rfl)
theorem ok_are_pairs {P : Program} {w : World} {K : PySem.W.Frag} {mg : Str → Option Value} {base : Heap} (T : Tx P w K mg base) : Df P w K mg base "are_pairs" 4 3 (F_are_pairs (ad K)) dl_are_pairs := by
  obtain ⟨fd, fdd⟩ := T.d_are_pairs
  exact ⟨_, fd, _, fn_are_pairs T fdd, T.m_are_pairs, fdd.kp, (binds_none fdd fun _ _ _ _ _ _ us hl => match us, hl with | [_, _, _], _ => rfl)⟩
theorem sc_wrong_entry : FnScope ["calls", "table", "state", "row", "c", "came", "told", "v"] ["calls", "table"] (defScope s_wrong_entry) := ⟨rfl, rfl, rfl, by decide +kernel, rfl, by decide +kernel, by decide +kernel⟩
theorem fn_wrong_entry {P : Program} {w : World} {K : PySem.W.Frag} {mg : Str → Option Value} {base : Heap} (T : Tx P w K mg base) {fd : FuncData} (fdd : FunD K "wrong_entry" "wrong_entry" (defArgs s_wrong_entry) (defBody s_wrong_entry) (defScope s_wrong_entry) [] [] (He.ga K "wrong_entry") fd) : FnOk P w K mg base (L2.CX P w) 5 (He.ga K "wrong_entry") fd ["calls", "table"] (spI K 2 (F_wrong_entry (ad K))) :=
  zfn (k := 4) (den := den_wrong_entry (ad K)) fdd sc_wrong_entry rfl (fun cdv A outer s H E G => (zb_cons (zs_for G.pass rfl (zi_enum T.b_enumerate (za_cons (ze_var 1) za_nil)) (zg_tp rfl (zgs_cons (zg_nm sc_wrong_entry.nd) (zgs_cons (zg_nm sc_wrong_entry.nd) zgs_nil))) (zb_one (zs_for G.pass rfl (zi_enum T.b_enumerate (za_cons (ze_var 0) za_nil)) (zg_tp rfl (zgs_cons (zg_nm sc_wrong_entry.nd) (zgs_cons (zg_tp rfl (zgs_cons (zg_nm sc_wrong_entry.nd) (zgs_cons (zg_nm sc_wrong_entry.nd) zgs_nil))) zgs_nil))) (zb_cons (zs_if (zt_w (zw_or (zt_not (zt_val (zd_call (ok_is_sequence T) 0 (G.room.mono (by decide)) (za_cons (ze_var 3) za_nil)))) (zw_or (zt_ne G.room.units (ze_len T.b_len (za_cons (ze_var 3) za_nil)) (ze_len T.b_len (za_cons (ze_var 0) za_nil))) (zw_or (zt_not (zt_val (zd_call (ok_is_sequence T) 0 (G.room.mono (by decide)) (za_cons (ze_sub_ix (ze_var 3) (ze_var 4)) za_nil)))) (zw_or1 (zt_ne G.room.units (ze_len T.b_len (za_cons (ze_sub_ix (ze_var 3) (ze_var 4)) za_nil)) (ze_var 5))))))) (zb_one (zs_ret (ze_tup (za_cons (ze_var 2) (za_cons (ze_var 4) (za_cons (ze_neg ze_int) za_nil))) (lenA_cons (lenA_cons (lenA_cons lenA_nil)))))) zb_nil)
  (zb_one (zs_for G.pass rfl (zi_r1 T.b_range (za_cons (ze_var 5) za_nil)) (zg_nm sc_wrong_entry.nd) (zb_one (zs_if (zt_not (zt_val (zd_call (ok_are_pairs T) 0 (G.room.mono (by decide)) (za_cons (ze_sub_ix (ze_sub_ix (ze_var 3) (ze_var 4)) (ze_var 7)) (za_cons (ze_var 6) (za_cons (ze_len T.b_len (za_cons (ze_var 1) za_nil)) za_nil)))))) (zb_one (zs_ret (ze_tup (za_cons (ze_var 2) (za_cons (ze_var 4) (za_cons (ze_var 7) za_nil))) (lenA_cons (lenA_cons (lenA_cons lenA_nil)))))) zb_nil))))))))
  (zb_one (zs_ret ze_non)))) (fun ds S _ _ _ => Ref.same rfl)
theorem ok_wrong_entry {P : Program} {w : World} {K : PySem.W.Frag} {mg : Str → Option Value} {base : Heap} (T : Tx P w K mg base) : Df P w K mg base "wrong_entry" 5 2 (F_wrong_entry (ad K)) dl_wrong_entry := by
  obtain ⟨fd, fdd⟩ := T.d_wrong_entry
  exact ⟨_, fd, _, fn_wrong_entry T fdd, T.m_wrong_entry, fdd.kp, (binds_none fdd fun _ _ _ _ _ _ us hl => match us, hl with | [_, _], _ => rfl)⟩
theorem sc_Thing_mk : FnScope ["self", "calls", "table", "row", "wrong", "values"] ["self", "calls", "table"] (defScope s_Thing_mk) := ⟨rfl, rfl, rfl, by decide +kernel, rfl, by decide +kernel, by decide +kernel⟩
theorem fn_Thing_mk {P : Program} {w : World} {K : PySem.W.Frag} {mg : Str → Option Value} {base : Heap} (T : Tx P w K mg base) {fd : FuncData} (fdd : FunD K "__init__" "Thing.__init__" (defArgs s_Thing_mk) (defBody s_Thing_mk) (defScope s_Thing_mk) [] [] (He.ma K (He.ga K "Thing") "__init__") fd) : FnOk P w K mg base (L2.CX P w) 6 (He.ma K (He.ga K "Thing") "__init__") fd ["self", "calls", "table"] (spI K 3 (F_Thing_mk (ad K))) :=
  zfn (k := 5) (den := den_Thing_mk (ad K)) fdd sc_Thing_mk rfl (fun cdv A outer s H E G => (zb_cons (zs_if (zt_w (zw_or (zt_not (zt_val (zd_call (ok_is_sequence T) 0 (G.room.mono (by decide)) (za_cons (ze_var 1) za_nil)))) (zw_or (zt_not (zt_lele ze_int (ze_len T.b_len (za_cons (ze_var 1) za_nil)) (ze_glob (v := V.int 12) (T.c_MOST_CALLS).choose_spec ⟨_, rfl⟩ fun _ _ _ => RDi _))) (zw_or1 (zt_not (zt_val (ze_all rfl T.b_all (za_cons (ze_lv (zl_lc (own := [("row", 3)]) rfl sc_Thing_mk.nd (zi_seq (ze_var 1)) (blkOk_by (own := [("row", 3)]) (by kernel_rfl)) (by decide) (fun _ _ _ _ _ => (zg_nm sc_Thing_mk.nd)) (fun _ _ _ _ _ => zts_nil) (fun _ _ _ _ _ => (zd_call (ok_is_call_row T) 0 (G.room.mono (by decide)) (za_cons (ze_var 3) za_nil))))) za_nil)))))))) (zb_one (zs_raise rfl T.e_InvalidThing T.m_InvalidThing T.b_super G.room ze_str)) zb_nil)
  (zb_cons (zs_if (zt_w (zw_or (zt_not (zt_val (zd_call (ok_is_sequence T) 0 (G.room.mono (by decide)) (za_cons (ze_var 2) za_nil)))) (zw_or1 (zt_not (zt_lele ze_int (ze_len T.b_len (za_cons (ze_var 2) za_nil)) (ze_glob (v := V.int 256) (T.c_MOST_STATES).choose_spec ⟨_, rfl⟩ fun _ _ _ => RDi _)))))) (zb_one (zs_raise rfl T.e_InvalidThing T.m_InvalidThing T.b_super G.room ze_str)) zb_nil)
  (zb_cons (zs_set sc_Thing_mk.nd (zd_call (ok_wrong_entry T) 0 (G.room.mono (by decide)) (za_cons (ze_var 1) (za_cons (ze_var 2) za_nil))))
  (zb_cons (zs_if (zt_notN (ze_var 4)) (zb_one (zs_raise rfl T.e_InvalidThing T.m_InvalidThing T.b_super G.room (ze_var 4))) zb_nil)
  (zb_cons (zs_attr T.na_calls (ze_var 0) (ze_tuple T.b_tuple (za_cons (ze_lv (zl_lc (own := [("row", 3)]) rfl sc_Thing_mk.nd (zi_seq (ze_var 1)) (blkOk_by (own := [("row", 3)]) (by kernel_rfl)) (by decide) (fun _ _ _ _ _ => (zg_nm sc_Thing_mk.nd)) (fun _ _ _ _ _ => zts_nil) (fun _ _ _ _ _ => (ze_tup (za_cons (ze_sub_ix (ze_var 3) ze_int) (za_cons (ze_sub_ix (ze_var 3) ze_int) za_nil)) (lenA_cons (lenA_cons lenA_nil)))))) za_nil)))
  (zb_one (zs_attr T.na_table (ze_var 0) (ze_tuple T.b_tuple (za_cons (ze_lv (zl_lc (own := [("row", 3)]) rfl sc_Thing_mk.nd (zi_seq (ze_var 2)) (blkOk_by (own := [("row", 3)]) (by kernel_rfl)) (by decide) (fun _ _ _ _ _ => (zg_nm sc_Thing_mk.nd)) (fun _ _ _ _ _ => zts_nil) (fun _ _ _ _ _ => (ze_tuple T.b_tuple (za_cons (ze_lv (zl_lc (own := [("values", 5)]) rfl sc_Thing_mk.nd (zi_seq (ze_var 3)) (blkOk_by (own := [("values", 5)]) (by kernel_rfl)) (by decide) (fun _ _ _ _ _ => (zg_nm sc_Thing_mk.nd)) (fun _ _ _ _ _ => zts_nil) (fun _ _ _ _ _ => (ze_tuple T.b_tuple (za_cons (ze_var 5) za_nil))))) za_nil))))) za_nil)))))))))) (fun ds S _ _ _ => Ref.same rfl)
theorem ok_Thing_mk {P : Program} {w : World} {K : PySem.W.Frag} {mg : Str → Option Value} {base : Heap} (T : Tx P w K mg base) : Dk P w K mg base "Thing" (ad K).Thing 6 3 (F_Thing_mk (ad K)) dl_Thing_mk := by
  obtain ⟨fd, fdd⟩ := T.d_Thing_mk
  exact ⟨⟨_, T.mk_Thing, fd, _, fn_Thing_mk T fdd, (binds_none fdd fun _ _ _ _ _ _ us hl => match us, hl with | [_, _, _], _ => rfl)⟩, T.m_Thing⟩
theorem sc_states_of : FnScope ["thing"] ["thing"] (defScope s_states_of) := ⟨rfl, rfl, rfl, by decide +kernel, rfl, by decide +kernel, by decide +kernel⟩
theorem fn_states_of {P : Program} {w : World} {K : PySem.W.Frag} {mg : Str → Option Value} {base : Heap} (T : Tx P w K mg base) {fd : FuncData} (fdd : FunD K "states_of" "states_of" (defArgs s_states_of) (defBody s_states_of) (defScope s_states_of) [] [] (He.ga K "states_of") fd) : FnOk P w K mg base (L2.CX P w) 1 (He.ga K "states_of") fd ["thing"] (spI K 1 (F_states_of (ad K))) :=
  zfn (k := 0) (den := den_states_of (ad K)) fdd sc_states_of rfl (fun cdv A outer s H E G => (zb_one (zs_ret (ze_len T.b_len (za_cons (ze_fld T.na_table (ze_var 0)) za_nil))))) (fun ds S _ _ _ => Ref.same rfl)
theorem ok_states_of {P : Program} {w : World} {K : PySem.W.Frag} {mg : Str → Option Value} {base : Heap} (T : Tx P w K mg base) : Df P w K mg base "states_of" 1 1 (F_states_of (ad K)) dl_states_of := by
  obtain ⟨fd, fdd⟩ := T.d_states_of
  exact ⟨_, fd, _, fn_states_of T fdd, T.m_states_of, fdd.kp, (binds_none fdd fun _ _ _ _ _ _ us hl => match us, hl with | [_], _ => rfl)⟩
theorem sc_is_call : FnScope ["thing", "c", "v"] ["thing", "c", "v"] (defScope s_is_call) := ⟨rfl, rfl, rfl, by decide +kernel, rfl, by decide +kernel, by decide +kernel⟩
theorem fn_is_call {P : Program} {w : World} {K : PySem.W.Frag} {mg : Str → Option Value} {base : Heap} (T : Tx P w K mg base) {fd : FuncData} (fdd : FunD K "is_call" "is_call" (defArgs s_is_call) (defBody s_is_call) (defScope s_is_call) [] [] (He.ga K "is_call") fd) : FnOk P w K mg base (L2.CX P w) 3 (He.ga K "is_call") fd ["thing", "c", "v"] (spI K 3 (F_is_call (ad K))) :=
  zfn (k := 2) (den := den_is_call (ad K)) fdd sc_is_call rfl (fun cdv A outer s H E G => (zb_one (zs_ret (ze_and (zd_call (ok_is_number T) 1 (G.room.mono (by decide)) (za_cons (ze_var 1) (za_cons (ze_sub (ze_len T.b_len (za_cons (ze_fld T.na_calls (ze_var 0)) za_nil)) ze_int) za_nil))) (ze_one (zd_call (ok_is_number T) 1 (G.room.mono (by decide)) (za_cons (ze_var 2) (za_cons (ze_sub (ze_sub_ix (ze_sub_ix (ze_fld T.na_calls (ze_var 0)) (ze_var 1)) ze_int) ze_int) za_nil)))))))) (fun ds S _ _ _ => Ref.same rfl)
theorem ok_is_call {P : Program} {w : World} {K : PySem.W.Frag} {mg : Str → Option Value} {base : Heap} (T : Tx P w K mg base) : Df P w K mg base "is_call" 3 3 (F_is_call (ad K)) dl_is_call := by
  obtain ⟨fd, fdd⟩ := T.d_is_call
  exact ⟨_, fd, _, fn_is_call T fdd, T.m_is_call, fdd.kp, (binds_none fdd fun _ _ _ _ _ _ us hl => match us, hl with | [_, _, _], _ => rfl)⟩
theorem sc_calls_of : FnScope ["thing", "c", "came", "told", "v"] ["thing"] (defScope s_calls_of) := ⟨rfl, rfl, rfl, by decide +kernel, rfl, by decide +kernel, by decide +kernel⟩
theorem fn_calls_of {P : Program} {w : World} {K : PySem.W.Frag} {mg : Str → Option Value} {base : Heap} (T : Tx P w K mg base) {fd : FuncData} (fdd : FunD K "calls_of" "calls_of" (defArgs s_calls_of) (defBody s_calls_of) (defScope s_calls_of) [] [] (He.ga K "calls_of") fd) : FnOk P w K mg base (L2.CX P w) 1 (He.ga K "calls_of") fd ["thing"] (spI K 1 (F_calls_of (ad K))) :=
  zfn (k := 0) (den := den_calls_of (ad K)) fdd sc_calls_of rfl (fun cdv A outer s H E G => (zb_one (zs_ret (ze_tuple T.b_tuple (za_cons (ze_lv (zl_lc2 (own := [("c", 1), ("came", 2), ("told", 3), ("v", 4)]) (vs1 := [4]) rfl sc_calls_of.nd (zi_enum T.b_enumerate (za_cons (ze_fld T.na_calls (ze_var 0)) za_nil)) (blkOk_by (own := [("c", 1), ("came", 2), ("told", 3), ("v", 4)]) (by kernel_rfl)) (by decide) (by decide) (by decide) (fun _ _ _ _ _ => (zg_tp rfl (zgs_cons (zg_nm sc_calls_of.nd) (zgs_cons (zg_tp rfl (zgs_cons (zg_nm sc_calls_of.nd) (zgs_cons (zg_nm sc_calls_of.nd) zgs_nil))) zgs_nil)))) (fun _ _ _ _ _ => zts_nil) (fun _ _ _ _ _ => (zi_r1 T.b_range (za_cons (ze_var 2) za_nil))) (fun _ _ _ _ _ => (zg_nm sc_calls_of.nd)) (fun _ _ _ _ _ => zts_nil) (fun _ _ _ _ _ => (ze_tup (za_cons (ze_var 1) (za_cons (ze_var 4) za_nil)) (lenA_cons (lenA_cons lenA_nil)))))) za_nil))))) (fun ds S _ _ _ => Ref.same rfl)
theorem ok_calls_of {P : Program} {w : World} {K : PySem.W.Frag} {mg : Str → Option Value} {base : Heap} (T : Tx P w K mg base) : Df P w K mg base "calls_of" 1 1 (F_calls_of (ad K)) dl_calls_of := by
  obtain ⟨fd, fdd⟩ := T.d_calls_of
  exact ⟨_, fd, _, fn_calls_of T fdd, T.m_calls_of, fdd.kp, (binds_none fdd fun _ _ _ _ _ _ us hl => match us, hl with | [_], _ => rfl)⟩
theorem sc_pairs_of : FnScope ["thing", "state", "c", "v"] ["thing", "state", "c", "v"] (defScope s_pairs_of) := ⟨rfl, rfl, rfl, by decide +kernel, rfl, by decide +kernel, by decide +kernel⟩
theorem fn_pairs_of {P : Program} {w : World} {K : PySem.W.Frag} {mg : Str → Option Value} {base : Heap} (T : Tx P w K mg base) {fd : FuncData} (fdd : FunD K "pairs_of" "pairs_of" (defArgs s_pairs_of) (defBody s_pairs_of) (defScope s_pairs_of) [] [] (He.ga K "pairs_of") fd) : FnOk P w K mg base (L2.CX P w) 1 (He.ga K "pairs_of") fd ["thing", "state", "c", "v"] (spI K 4 (F_pairs_of (ad K))) :=
  zfn (k := 0) (den := den_pairs_of (ad K)) fdd sc_pairs_of rfl (fun cdv A outer s H E G => (zb_one (zs_ret (ze_sub_ix (ze_sub_ix (ze_sub_ix (ze_fld T.na_table (ze_var 0)) (ze_var 1)) (ze_var 2)) (ze_var 3))))) (fun ds S _ _ _ => Ref.same rfl)
theorem ok_pairs_of {P : Program} {w : World} {K : PySem.W.Frag} {mg : Str → Option Value} {base : Heap} (T : Tx P w K mg base) : Df P w K mg base "pairs_of" 1 4 (F_pairs_of (ad K)) dl_pairs_of := by
  obtain ⟨fd, fdd⟩ := T.d_pairs_of
  exact ⟨_, fd, _, fn_pairs_of T fdd, T.m_pairs_of, fdd.kp, (binds_none fdd fun _ _ _ _ _ _ us hl => match us, hl with | [_, _, _, _], _ => rfl)⟩
theorem sc_is_sure : FnScope ["thing", "calls", "state", "c", "v"] ["thing"] (defScope s_is_sure) := ⟨rfl, rfl, rfl, by decide +kernel, rfl, by decide +kernel, by decide +kernel⟩
theorem fn_is_sure {P : Program} {w : World} {K : PySem.W.Frag} {mg : Str → Option Value} {base : Heap} (T : Tx P w K mg base) {fd : FuncData} (fdd : FunD K "is_sure" "is_sure" (defArgs s_is_sure) (defBody s_is_sure) (defScope s_is_sure) [] [] (He.ga K "is_sure") fd) : FnOk P w K mg base (L2.CX P w) 2 (He.ga K "is_sure") fd ["thing"] (spI K 1 (F_is_sure (ad K))) :=
  zfn (k := 1) (den := den_is_sure (ad K)) fdd sc_is_sure rfl (fun cdv A outer s H E G => (zb_cons (zs_set sc_is_sure.nd (zd_call (ok_calls_of T) 0 (G.room.mono (by decide)) (za_cons (ze_var 0) za_nil)))
  (zb_one (zs_ret (ze_all rfl T.b_all (za_cons (ze_lv (zl_lc2 (own := [("state", 2), ("c", 3), ("v", 4)]) (vs1 := [3, 4]) rfl sc_is_sure.nd (zi_r1 T.b_range (za_cons (zd_call (ok_states_of T) 0 (G.room.mono (by decide)) (za_cons (ze_var 0) za_nil)) za_nil)) (blkOk_by (own := [("state", 2), ("c", 3), ("v", 4)]) (by kernel_rfl)) (by decide) (by decide) (by decide) (fun _ _ _ _ _ => (zg_nm sc_is_sure.nd)) (fun _ _ _ _ _ => zts_nil) (fun _ _ _ _ _ => (zi_seq (ze_var 1))) (fun _ _ _ _ _ => (zg_tp rfl (zgs_cons (zg_nm sc_is_sure.nd) (zgs_cons (zg_nm sc_is_sure.nd) zgs_nil)))) (fun _ _ _ _ _ => zts_nil) (fun _ _ _ _ _ => (ze_eq G.room.units (ze_len T.b_len (za_cons (zd_call (ok_pairs_of T) 0 (G.room.mono (by decide)) (za_cons (ze_var 0) (za_cons (ze_var 2) (za_cons (ze_var 3) (za_cons (ze_var 4) za_nil))))) za_nil)) ze_int)))) za_nil)))))) (fun ds S _ _ _ => Ref.same rfl)
theorem ok_is_sure {P : Program} {w : World} {K : PySem.W.Frag} {mg : Str → Option Value} {base : Heap} (T : Tx P w K mg base) : Df P w K mg base "is_sure" 2 1 (F_is_sure (ad K)) dl_is_sure := by
  obtain ⟨fd, fdd⟩ := T.d_is_sure
  exact ⟨_, fd, _, fn_is_sure T fdd, T.m_is_sure, fdd.kp, (binds_none fdd fun _ _ _ _ _ _ us hl => match us, hl with | [_], _ => rfl)⟩
theorem sc_is_part : FnScope ["value"] ["value"] (defScope s_is_part) := ⟨rfl, rfl, rfl, by decide +kernel, rfl, by decide +kernel, by decide +kernel⟩
theorem fn_is_part {P : Program} {w : World} {K : PySem.W.Frag} {mg : Str → Option Value} {base : Heap} (T : Tx P w K mg base) {fd : FuncData} (fdd : FunD K "is_part" "is_part" (defArgs s_is_part) (defBody s_is_part) (defScope s_is_part) [] [] (He.ga K "is_part") fd) : FnOk P w K mg base (L2.CX P w) 3 (He.ga K "is_part") fd ["value"] (spI K 1 (F_is_part (ad K))) :=
  zfn (k := 2) (den := den_is_part (ad K)) fdd sc_is_part rfl (fun cdv A outer s H E G => (zb_cons (zs_if (zt_w (zw_or (zt_not (zt_val (ze_isi T.kit T.b_isinstance (za_cons (ze_var 0) (za_cons (ze_ty T.b_tuple) za_nil))))) (zw_or (zt_ne G.room.units (ze_len T.b_len (za_cons (ze_var 0) za_nil)) ze_int) (zw_or1 (zt_not (zt_val (ze_isi T.kit T.b_isinstance (za_cons (ze_sub_ix (ze_var 0) ze_int) (za_cons (ze_glob (v := V.ref (ad K).Thing) T.m_Thing rfl fun _ _ _ => RDa _) za_nil))))))))) (zb_one (zs_ret ze_bl)) zb_nil)
  (zb_one (zs_ret (zd_call (ok_is_number T) 1 (G.room.mono (by decide)) (za_cons (ze_sub_ix (ze_var 0) ze_int) (za_cons (ze_sub (zd_call (ok_states_of T) 0 (G.room.mono (by decide)) (za_cons (ze_sub_ix (ze_var 0) ze_int) za_nil)) ze_int) za_nil))))))) (fun ds S _ _ _ => Ref.same rfl)
theorem ok_is_part {P : Program} {w : World} {K : PySem.W.Frag} {mg : Str → Option Value} {base : Heap} (T : Tx P w K mg base) : Df P w K mg base "is_part" 3 1 (F_is_part (ad K)) dl_is_part := by
  obtain ⟨fd, fdd⟩ := T.d_is_part
  exact ⟨_, fd, _, fn_is_part T fdd, T.m_is_part, fdd.kp, (binds_none fdd fun _ _ _ _ _ _ us hl => match us, hl with | [_], _ => rfl)⟩
theorem sc_unlike_pairs : FnScope ["thing", "state", "c", "v", "found", "told", "after"] ["thing", "state", "c", "v"] (defScope s_unlike_pairs) := ⟨rfl, rfl, rfl, by decide +kernel, rfl, by decide +kernel, by decide +kernel⟩
theorem fn_unlike_pairs {P : Program} {w : World} {K : PySem.W.Frag} {mg : Str → Option Value} {base : Heap} (T : Tx P w K mg base) {fd : FuncData} (fdd : FunD K "unlike_pairs" "unlike_pairs" (defArgs s_unlike_pairs) (defBody s_unlike_pairs) (defScope s_unlike_pairs) [] [] (He.ga K "unlike_pairs") fd) : FnOk P w K mg base (L2.CX P w) 2 (He.ga K "unlike_pairs") fd ["thing", "state", "c", "v"] (spI K 4 (F_unlike_pairs (ad K))) :=
  zfn (k := 1) (den := den_unlike_pairs (ad K)) fdd sc_unlike_pairs rfl (fun cdv A outer s H E G => (zb_cons (zs_set sc_unlike_pairs.nd ze_dct)
  (zb_cons (zs_for G.pass rfl (zi_seq (zd_call (ok_pairs_of T) 0 (G.room.mono (by decide)) (za_cons (ze_var 0) (za_cons (ze_var 1) (za_cons (ze_var 2) (za_cons (ze_var 3) za_nil)))))) (zg_tp rfl (zgs_cons (zg_nm sc_unlike_pairs.nd) (zgs_cons (zg_nm sc_unlike_pairs.nd) zgs_nil))) (zb_one (zs_drop (ze_setd (ze_var 4) (ze_var 6) (ze_tup (za_cons (ze_var 5) (za_cons (ze_var 6) za_nil)) (lenA_cons (lenA_cons lenA_nil)))))))
  (zb_one (zs_ret (ze_tuple T.b_tuple (za_cons (ze_lv (zl_lc (own := [("after", 6)]) rfl sc_unlike_pairs.nd (zi_seq (ze_lv (zl_sorted T.b_sorted (za_cons (ze_lv (zl_list rfl T.b_list (za_cons (ze_var 4) za_nil))) za_nil)))) (blkOk_by (own := [("after", 6)]) (by kernel_rfl)) (by decide) (fun _ _ _ _ _ => (zg_nm sc_unlike_pairs.nd)) (fun _ _ _ _ _ => zts_nil) (fun _ _ _ _ _ => (ze_dget (hu1 G.room) (ze_var 4) (ze_var 6))))) za_nil))))))) (fun ds S _ _ _ => Ref.same rfl)
theorem ok_unlike_pairs {P : Program} {w : World} {K : PySem.W.Frag} {mg : Str → Option Value} {base : Heap} (T : Tx P w K mg base) : Df P w K mg base "unlike_pairs" 2 4 (F_unlike_pairs (ad K)) dl_unlike_pairs := by
  obtain ⟨fd, fdd⟩ := T.d_unlike_pairs
  exact ⟨_, fd, _, fn_unlike_pairs T fdd, T.m_unlike_pairs, fdd.kp, (binds_none fdd fun _ _ _ _ _ _ us hl => match us, hl with | [_, _, _, _], _ => rfl)⟩
theorem sc_reached_states : FnScope ["thing", "start", "found", "at", "c", "v", "told", "after"] ["thing", "start"] (defScope s_reached_states) := ⟨rfl, rfl, rfl, by decide +kernel, rfl, by decide +kernel, by decide +kernel⟩
theorem fn_reached_states {P : Program} {w : World} {K : PySem.W.Frag} {mg : Str → Option Value} {base : Heap} (T : Tx P w K mg base) {fd : FuncData} (fdd : FunD K "reached_states" "reached_states" (defArgs s_reached_states) (defBody s_reached_states) (defScope s_reached_states) [] [] (He.ga K "reached_states") fd) : FnOk P w K mg base (L2.CX P w) 3 (He.ga K "reached_states") fd ["thing", "start"] (spI K 2 (F_reached_states (ad K))) :=
  zfn (k := 2) (den := den_reached_states (ad K)) fdd sc_reached_states rfl (fun cdv A outer s H E G => (zb_cons (zs_asg (ze_tup (za_cons (ze_ln (zl_lst (za_cons (ze_var 1) za_nil) (lenA_cons lenA_nil))) (za_cons ze_int za_nil)) (lenA_cons (lenA_cons lenA_nil))) (zg_tp rfl (zgs_cons (zg_nm sc_reached_states.nd) (zgs_cons (zg_nm sc_reached_states.nd) zgs_nil))))
  (zb_cons (zs_while 8 G.pass (zt_lt (ze_var 3) (ze_len T.b_len (za_cons (ze_var 2) za_nil))) (zb_cons (zs_for G.pass rfl (zi_seq (zd_call (ok_calls_of T) 0 (G.room.mono (by decide)) (za_cons (ze_var 0) za_nil))) (zg_tp rfl (zgs_cons (zg_nm sc_reached_states.nd) (zgs_cons (zg_nm sc_reached_states.nd) zgs_nil))) (zb_one (zs_drop (ze_ext (ze_var 2) (za_cons (ze_lv (zl_lc (own := [("told", 6), ("after", 7)]) rfl sc_reached_states.nd (zi_seq (zd_call (ok_unlike_pairs T) 0 (G.room.mono (by decide)) (za_cons (ze_var 0) (za_cons (ze_sub_ix (ze_var 2) (ze_var 3)) (za_cons (ze_var 4) (za_cons (ze_var 5) za_nil)))))) (blkOk_by (own := [("told", 6), ("after", 7)]) (by kernel_rfl)) (by decide) (fun _ _ _ _ _ => (zg_tp rfl (zgs_cons (zg_nm sc_reached_states.nd) (zgs_cons (zg_nm sc_reached_states.nd) zgs_nil)))) (fun _ _ _ _ _ => (zts_one (zt_notin (hu65 G.room) (ze_var 7) (ze_var 2)))) (fun _ _ _ _ _ => (ze_var 7)))) za_nil)))))
  (zb_one (zs_aug sc_reached_states.nd ze_int))))
  (zb_one (zs_ret (ze_tuple T.b_tuple (za_cons (ze_var 2) za_nil))))))) (fun ds S _ _ _ => Ref.same rfl)
theorem ok_reached_states {P : Program} {w : World} {K : PySem.W.Frag} {mg : Str → Option Value} {base : Heap} (T : Tx P w K mg base) : Df P w K mg base "reached_states" 3 2 (F_reached_states (ad K)) dl_reached_states := by
  obtain ⟨fd, fdd⟩ := T.d_reached_states
  exact ⟨_, fd, _, fn_reached_states T fdd, T.m_reached_states, fdd.kp, (binds_none fdd fun _ _ _ _ _ _ us hl => match us, hl with | [_, _], _ => rfl)⟩
theorem sc__law_heap : FnScope ["script", "great", "cells", "stir", "cell"] ["script"] (defScope s__law_heap) := ⟨rfl, rfl, rfl, by decide +kernel, rfl, by decide +kernel, by decide +kernel⟩
theorem fn__law_heap {P : Program} {w : World} {K : PySem.W.Frag} {mg : Str → Option Value} {base : Heap} (T : Tx P w K mg base) {fd : FuncData} (fdd : FunD K "_law_heap" "_law_heap" (defArgs s__law_heap) (defBody s__law_heap) (defScope s__law_heap) [] [] (He.ga K "_law_heap") fd) : FnOk P w K mg base (L2.CX P w) 1 (He.ga K "_law_heap") fd ["script"] (spI K 1 (F__law_heap (ad K))) :=
  zfn (k := 0) (den := den__law_heap (ad K)) fdd sc__law_heap rfl (fun cdv A outer s H E G => (zb_cons (zs_set sc__law_heap.nd (ze_mul (ze_mul (ze_pow ze_int ze_int) (ze_pow ze_int ze_int)) (ze_pow ze_int ze_int)))
  (zb_cons (zs_par rfl sc__law_heap.nd (ze_lv (zl_lc (own := [("cell", 4)]) rfl sc__law_heap.nd (zi_seq (ze_lv (zl_slice (ze_var 0) zo_none (zo_some ze_int)))) (blkOk_by (own := [("cell", 4)]) (by kernel_rfl)) (by decide) (fun _ _ _ _ _ => (zg_nm sc__law_heap.nd)) (fun _ _ _ _ _ => zts_nil) (fun _ _ _ _ _ => (ze_mod (ze_int1 T.b_int (za_cons (ze_plus (ze_mul ze_int (ze_abs T.b_abs (za_cons (ze_var 4) za_nil))) (ze_int1 T.b_int (za_cons (ze_lt (ze_var 4) ze_int) za_nil))) za_nil)) (ze_var 1))))) ze_int)
  (zb_cons (zs_for G.pass rfl (zi_seq (ze_var 2)) (zg_nm sc__law_heap.nd) (zb_one (zs_set sc__law_heap.nd (ze_mod (ze_int1 T.b_int (za_cons (ze_plus (ze_plus (ze_mul (ze_var 3) ze_int) (ze_mod (ze_int1 T.b_int (za_cons (ze_var 4) za_nil)) ze_int)) ze_int) za_nil)) ze_int))))
  (zb_one (zs_ret (ze_ln (zl_lst (za_cons (ze_ln (zl_rev (ze_lv (zl_lc (own := [("cell", 4)]) rfl sc__law_heap.nd (zi_seq (ze_var 2)) (blkOk_by (own := [("cell", 4)]) (by kernel_rfl)) (by decide) (fun _ _ _ _ _ => (zg_nm sc__law_heap.nd)) (fun _ _ _ _ _ => (zts_one (zt_ge (ze_var 4) (ze_pow ze_int ze_int)))) (fun _ _ _ _ _ => (ze_var 4)))))) (za_cons (ze_var 3) za_nil)) (lenA_cons (lenA_cons lenA_nil)))))))))) (fun ds S _ _ _ => Ref.same rfl)
theorem ok__law_heap {P : Program} {w : World} {K : PySem.W.Frag} {mg : Str → Option Value} {base : Heap} (T : Tx P w K mg base) : Df P w K mg base "_law_heap" 1 1 (F__law_heap (ad K)) dl__law_heap := by
  obtain ⟨fd, fdd⟩ := T.d__law_heap
  exact ⟨_, fd, _, fn__law_heap T fdd, T.m__law_heap, fdd.kp, (binds_none fdd fun _ _ _ _ _ _ us hl => match us, hl with | [_], _ => rfl)⟩
theorem sc__law_draw : FnScope ["heap", "many", "rest"] ["heap", "many"] (defScope s__law_draw) := ⟨rfl, rfl, rfl, by decide +kernel, rfl, by decide +kernel, by decide +kernel⟩
theorem fn__law_draw {P : Program} {w : World} {K : PySem.W.Frag} {mg : Str → Option Value} {base : Heap} (T : Tx P w K mg base) {fd : FuncData} (fdd : FunD K "_law_draw" "_law_draw" (defArgs s__law_draw) (defBody s__law_draw) (defScope s__law_draw) [] [] (He.ga K "_law_draw") fd) : FnOk P w K mg base (L2.CX P w) 1 (He.ga K "_law_draw") fd ["heap", "many"] (spI K 2 (F__law_draw (ad K))) :=
  zfn (k := 0) (den := den__law_draw (ad K)) fdd sc__law_draw rfl (fun cdv A outer s H E G => (zb_cons (zs_while 64 G.pass (zt_w (zw_and (zt_ne G.room.units (ze_sub_ix (ze_var 0) ze_int) (ze_lv (zl_lst za_nil lenA_nil))) (zw_and1 (zt_eq G.room.units (ze_sub_ix (ze_sub_ix (ze_var 0) ze_int) (ze_neg ze_int)) ze_int)))) (zb_one (zs_drop (ze_pop (ze_sub_ix (ze_var 0) ze_int)))))
  (zb_cons (zs_if (zt_ne G.room.units (ze_sub_ix (ze_var 0) ze_int) (ze_lv (zl_lst za_nil lenA_nil))) (zb_cons (zs_set sc__law_draw.nd (ze_pop (ze_sub_ix (ze_var 0) ze_int)))
  (zb_cons (zs_drop (ze_app (ze_sub_ix (ze_var 0) ze_int) (za_cons (ze_fdiv (ze_var 2) (ze_var 1)) za_nil)))
  (zb_one (zs_ret (ze_mod (ze_int1 T.b_int (za_cons (ze_var 2) za_nil)) (ze_var 1)))))) zb_nil)
  (zb_cons (zs_put (ze_mod (ze_int1 T.b_int (za_cons (ze_plus (ze_mul (ze_sub_ix (ze_var 0) ze_int) ze_int) ze_int) za_nil)) ze_int) (ze_var 0) ze_int)
  (zb_one (zs_ret (ze_mod (ze_int1 T.b_int (za_cons (ze_fdiv (ze_sub_ix (ze_var 0) ze_int) ze_int) za_nil)) (ze_var 1)))))))) (fun ds S _ _ _ => Ref.same rfl)
theorem ok__law_draw {P : Program} {w : World} {K : PySem.W.Frag} {mg : Str → Option Value} {base : Heap} (T : Tx P w K mg base) : Df P w K mg base "_law_draw" 1 2 (F__law_draw (ad K)) dl__law_draw := by
  obtain ⟨fd, fdd⟩ := T.d__law_draw
  exact ⟨_, fd, _, fn__law_draw T fdd, T.m__law_draw, fdd.kp, (binds_none fdd fun _ _ _ _ _ _ us hl => match us, hl with | [_, _], _ => rfl)⟩
theorem sc__law_pick : FnScope ["heap", "some"] ["heap", "some"] (defScope s__law_pick) := ⟨rfl, rfl, rfl, by decide +kernel, rfl, by decide +kernel, by decide +kernel⟩
theorem fn__law_pick {P : Program} {w : World} {K : PySem.W.Frag} {mg : Str → Option Value} {base : Heap} (T : Tx P w K mg base) {fd : FuncData} (fdd : FunD K "_law_pick" "_law_pick" (defArgs s__law_pick) (defBody s__law_pick) (defScope s__law_pick) [] [] (He.ga K "_law_pick") fd) : FnOk P w K mg base (L2.CX P w) 2 (He.ga K "_law_pick") fd ["heap", "some"] (spI K 2 (F__law_pick (ad K))) :=
  zfn (k := 1) (den := den__law_pick (ad K)) fdd sc__law_pick rfl (fun cdv A outer s H E G => (zb_one (zs_ret (ze_sub_ix (ze_var 1) (zd_call (ok__law_draw T) 0 (G.room.mono (by decide)) (za_cons (ze_var 0) (za_cons (ze_len T.b_len (za_cons (ze_var 1) za_nil)) za_nil))))))) (fun ds S _ _ _ => Ref.same rfl)
theorem ok__law_pick {P : Program} {w : World} {K : PySem.W.Frag} {mg : Str → Option Value} {base : Heap} (T : Tx P w K mg base) : Df P w K mg base "_law_pick" 2 2 (F__law_pick (ad K)) dl__law_pick := by
  obtain ⟨fd, fdd⟩ := T.d__law_pick
  exact ⟨_, fd, _, fn__law_pick T fdd, T.m__law_pick, fdd.kp, (binds_none fdd fun _ _ _ _ _ _ us hl => match us, hl with | [_, _], _ => rfl)⟩
theorem sc__law_like : FnScope ["told", "due", "one", "other"] ["told", "due"] (defScope s__law_like) := ⟨rfl, rfl, rfl, by decide +kernel, rfl, by decide +kernel, by decide +kernel⟩
theorem ok__law_like {P : Program} {w : World} {K : PySem.W.Frag} {mg : Str → Option Value} {base : Heap} (T : Tx P w K mg base) : ∀ n, Df P w K mg base "_law_like" (n + 1) 2 (F__law_like (ad K) n) dl__law_like
  | 0 => by
    obtain ⟨fd, fdd⟩ := T.d__law_like
    exact ⟨_, fd, _, zfn (den := fun _ _ => .bad) fdd sc__law_like rfl (fun cdv A outer s H E G => zb_bad) (fun ds S _ _ _ => Ref.same rfl), T.m__law_like, fdd.kp, (binds_none fdd fun _ _ _ _ _ _ us hl => match us, hl with | [_, _], _ => rfl)⟩
  | n + 1 => by
    obtain ⟨fd, fdd⟩ := T.d__law_like
    have IH := ok__law_like T n
    let c := ad K
    exact ⟨_, fd, _, zfn (k := n + 1) (den := den__law_like (ad K) (F__law_like (ad K) n)) fdd sc__law_like rfl (fun cdv A outer s H E G => (zb_cons (zs_if (zt_val (ze_isi T.kit T.b_isinstance (za_cons (ze_var 1) (za_cons (ze_ty T.b_tuple) za_nil)))) (zb_one (zs_ret (ze_and (ze_isi T.kit T.b_isinstance (za_cons (ze_var 0) (za_cons (ze_ty T.b_tuple) za_nil))) (ze_and (ze_eq G.room.units (ze_len T.b_len (za_cons (ze_var 0) za_nil)) (ze_len T.b_len (za_cons (ze_var 1) za_nil))) (ze_one (ze_all rfl T.b_all (za_cons (ze_lv (zl_lc (own := [("one", 2), ("other", 3)]) rfl sc__law_like.nd (zi_zip T.b_zip (za_cons (ze_var 0) (za_cons (ze_var 1) za_nil))) (blkOk_by (own := [("one", 2), ("other", 3)]) (by kernel_rfl)) (by decide) (fun _ _ _ _ _ => (zg_tp rfl (zgs_cons (zg_nm sc__law_like.nd) (zgs_cons (zg_nm sc__law_like.nd) zgs_nil)))) (fun _ _ _ _ _ => zts_nil) (fun _ _ _ _ _ => (zd_call IH 0 (G.room.mono (Nat.le_refl _)) (za_cons (ze_var 2) (za_cons (ze_var 3) za_nil)))))) za_nil))))))) zb_nil)
  (zb_cons (zs_if (zt_isN (ze_var 1)) (zb_one (zs_ret (ze_isN (ze_var 0)))) zb_nil)
  (zb_cons (zs_if (zt_val (ze_isi T.kit T.b_isinstance (za_cons (ze_var 1) (za_cons (ze_ty T.b_bool) za_nil)))) (zb_one (zs_ret (ze_ifx (zt_val (ze_var 1)) (ze_isB (ze_var 0) ze_bl) (ze_isB (ze_var 0) ze_bl)))) zb_nil)
  (zb_cons (zs_if (zt_val (ze_isi T.kit T.b_isinstance (za_cons (ze_var 1) (za_cons (ze_ty T.b_int) za_nil)))) (zb_one (zs_ret (ze_and (ze_isi T.kit T.b_isinstance (za_cons (ze_var 0) (za_cons (ze_ty T.b_int) za_nil))) (ze_and (ze_not (ze_isi T.kit T.b_isinstance (za_cons (ze_var 0) (za_cons (ze_ty T.b_bool) za_nil)))) (ze_one (ze_eq G.room.units (ze_var 0) (ze_var 1))))))) zb_nil)
  (zb_one (zs_ret (ze_and (ze_isi T.kit T.b_isinstance (za_cons (ze_var 0) (za_cons (ze_ty T.b_str) za_nil))) (ze_and (ze_isi T.kit T.b_isinstance (za_cons (ze_var 1) (za_cons (ze_ty T.b_str) za_nil))) (ze_one (ze_eq G.room.units (ze_var 0) (ze_var 1)))))))))))) (fun ds S _ _ _ => Ref.same rfl), T.m__law_like, fdd.kp, (binds_none fdd fun _ _ _ _ _ _ us hl => match us, hl with | [_, _], _ => rfl)⟩
theorem sc__law_thing : FnScope ["heap", "sure", "many", "calls", "turn", "table", "state", "row", "came", "told", "values", "v", "pairs"] ["heap", "sure"] (defScope s__law_thing) := ⟨rfl, rfl, rfl, by decide +kernel, rfl, by decide +kernel, by decide +kernel⟩
theorem fn__law_thing {P : Program} {w : World} {K : PySem.W.Frag} {mg : Str → Option Value} {base : Heap} (T : Tx P w K mg base) {fd : FuncData} (fdd : FunD K "_law_thing" "_law_thing" (defArgs s__law_thing) (defBody s__law_thing) (defScope s__law_thing) [] [] (He.ga K "_law_thing") fd) : FnOk P w K mg base (L2.CX P w) 3 (He.ga K "_law_thing") fd ["heap", "sure"] (spI K 2 (F__law_thing (ad K))) :=
  zfn (k := 2) (den := den__law_thing (ad K)) fdd sc__law_thing rfl (fun cdv A outer s H E G => (zb_cons (zs_par rfl sc__law_thing.nd (ze_plus ze_int (zd_call (ok__law_draw T) 0 (G.room.mono (by decide)) (za_cons (ze_var 0) (za_cons ze_int za_nil)))) (ze_ln (zl_lst za_nil lenA_nil)))
  (zb_cons (zs_for G.pass rfl (zi_r1 T.b_range (za_cons (ze_plus ze_int (zd_call (ok__law_draw T) 0 (G.room.mono (by decide)) (za_cons (ze_var 0) (za_cons ze_int za_nil)))) za_nil)) (zg_nm sc__law_thing.nd) (zb_one (zs_drop (ze_app (ze_var 3) (za_cons (ze_tup (za_cons (zd_call (ok__law_pick T) 0 (G.room.mono (by decide)) (za_cons (ze_var 0) (za_cons (ze_lv (zl_lst (za_cons ze_int (za_cons ze_int (za_cons ze_int (za_cons ze_int za_nil)))) (lenA_cons (lenA_cons (lenA_cons (lenA_cons lenA_nil)))))) za_nil))) (za_cons (zd_call (ok__law_pick T) 0 (G.room.mono (by decide)) (za_cons (ze_var 0) (za_cons (ze_lv (zl_lst (za_cons ze_int (za_cons ze_int (za_cons ze_int (za_cons ze_int za_nil)))) (lenA_cons (lenA_cons (lenA_cons (lenA_cons lenA_nil)))))) za_nil))) za_nil)) (lenA_cons (lenA_cons lenA_nil))) za_nil)))))
  (zb_cons (zs_set sc__law_thing.nd (ze_ln (zl_lst za_nil lenA_nil)))
  (zb_cons (zs_for G.pass rfl (zi_r1 T.b_range (za_cons (ze_var 2) za_nil)) (zg_nm sc__law_thing.nd) (zb_cons (zs_set sc__law_thing.nd (ze_ln (zl_lst za_nil lenA_nil)))
  (zb_cons (zs_for G.pass rfl (zi_seq (ze_var 3)) (zg_tp rfl (zgs_cons (zg_nm sc__law_thing.nd) (zgs_cons (zg_nm sc__law_thing.nd) zgs_nil))) (zb_cons (zs_set sc__law_thing.nd (ze_ln (zl_lst za_nil lenA_nil)))
  (zb_cons (zs_for G.pass rfl (zi_r1 T.b_range (za_cons (ze_var 8) za_nil)) (zg_nm sc__law_thing.nd) (zb_cons (zs_set sc__law_thing.nd (ze_ln (zl_lst (za_cons (ze_tup (za_cons (zd_call (ok__law_draw T) 0 (G.room.mono (by decide)) (za_cons (ze_var 0) (za_cons (ze_var 9) za_nil))) (za_cons (zd_call (ok__law_draw T) 0 (G.room.mono (by decide)) (za_cons (ze_var 0) (za_cons (ze_var 2) za_nil))) za_nil)) (lenA_cons (lenA_cons lenA_nil))) za_nil) (lenA_cons lenA_nil))))
  (zb_cons (zs_if (zt_w (zw_and (zt_not (zt_val (ze_var 1))) (zw_and1 (zt_eq G.room.units (zd_call (ok__law_draw T) 0 (G.room.mono (by decide)) (za_cons (ze_var 0) (za_cons ze_int za_nil))) ze_int)))) (zb_one (zs_drop (ze_app (ze_var 12) (za_cons (ze_tup (za_cons (zd_call (ok__law_draw T) 0 (G.room.mono (by decide)) (za_cons (ze_var 0) (za_cons (ze_var 9) za_nil))) (za_cons (zd_call (ok__law_draw T) 0 (G.room.mono (by decide)) (za_cons (ze_var 0) (za_cons (ze_var 2) za_nil))) za_nil)) (lenA_cons (lenA_cons lenA_nil))) za_nil)))) zb_nil)
  (zb_one (zs_drop (ze_app (ze_var 10) (za_cons (ze_tuple T.b_tuple (za_cons (ze_lv (zl_sortSet rfl G.room.units T.b_sorted T.b_set (za_cons (ze_var 12) za_nil))) za_nil)) za_nil)))))))
  (zb_one (zs_drop (ze_app (ze_var 7) (za_cons (ze_tuple T.b_tuple (za_cons (ze_var 10) za_nil)) za_nil)))))))
  (zb_one (zs_drop (ze_app (ze_var 5) (za_cons (ze_tuple T.b_tuple (za_cons (ze_var 7) za_nil)) za_nil)))))))
  (zb_one (zs_ret (ze_tup (za_cons (ze_tuple T.b_tuple (za_cons (ze_var 3) za_nil)) (za_cons (ze_tuple T.b_tuple (za_cons (ze_var 5) za_nil)) za_nil)) (lenA_cons (lenA_cons lenA_nil)))))))))) (fun ds S _ _ _ => Ref.same rfl)
theorem ok__law_thing {P : Program} {w : World} {K : PySem.W.Frag} {mg : Str → Option Value} {base : Heap} (T : Tx P w K mg base) : Df P w K mg base "_law_thing" 3 2 (F__law_thing (ad K)) dl__law_thing := by
  obtain ⟨fd, fdd⟩ := T.d__law_thing
  exact ⟨_, fd, _, fn__law_thing T fdd, T.m__law_thing, fdd.kp, (binds_none fdd fun _ _ _ _ _ _ us hl => match us, hl with | [_, _], _ => rfl)⟩
theorem sc__law_tried : FnScope ["calls", "table", "e"] ["calls", "table"] (defScope s__law_tried) := ⟨rfl, rfl, rfl, by decide +kernel, rfl, by decide +kernel, by decide +kernel⟩
theorem fn__law_tried {P : Program} {w : World} {K : PySem.W.Frag} {mg : Str → Option Value} {base : Heap} (T : Tx P w K mg base) {fd : FuncData} (fdd : FunD K "_law_tried" "_law_tried" (defArgs s__law_tried) (defBody s__law_tried) (defScope s__law_tried) [] [] (He.ga K "_law_tried") fd) : FnOk P w K mg base (L2.CX P w) 8 (He.ga K "_law_tried") fd ["calls", "table"] (spI K 2 (F__law_tried (ad K))) :=
  zfn (k := 7) (den := den__law_tried (ad K)) fdd sc__law_tried rfl (fun cdv A outer s H E G => (zb_one (zs_try rfl rfl sc__law_tried.nd T.m_StrokesError T.mt_StrokesError (fun pn xe hp => (zb_one (zs_ret (ze_tup (za_cons ze_str (za_cons (zd_mk (ok_Thing_mk T) 0 (G.room.mono (by decide)) (za_cons (ze_var 0) (za_cons (ze_var 1) za_nil))) za_nil)) (lenA_cons (lenA_cons lenA_nil)))))) (zx_tup (zxa_cons (zx_lift fun _ _ => ze_str) (zxa_cons (zx_ifx (zx_is T.is_InvalidThing T.b_isinstance T.m_InvalidThing) (zx_at T.xa) (zx_lift fun _ _ => ze_non)) zxa_nil)) fun _ _ => (lenA_cons (lenA_cons lenA_nil)))))) (fun ds S _ _ _ => Ref.same rfl)
theorem ok__law_tried {P : Program} {w : World} {K : PySem.W.Frag} {mg : Str → Option Value} {base : Heap} (T : Tx P w K mg base) : Df P w K mg base "_law_tried" 8 2 (F__law_tried (ad K)) dl__law_tried := by
  obtain ⟨fd, fdd⟩ := T.d__law_tried
  exact ⟨_, fd, _, fn__law_tried T fdd, T.m__law_tried, fdd.kp, (binds_none fdd fun _ _ _ _ _ _ us hl => match us, hl with | [_, _], _ => rfl)⟩
theorem sc__law_listed : FnScope ["heap", "value", "depth", "parts", "one"] ["heap", "value", "depth"] (defScope s__law_listed) := ⟨rfl, rfl, rfl, by decide +kernel, rfl, by decide +kernel, by decide +kernel⟩
theorem ok__law_listed {P : Program} {w : World} {K : PySem.W.Frag} {mg : Str → Option Value} {base : Heap} (T : Tx P w K mg base) : ∀ n, Df P w K mg base "_law_listed" (n + 2) 3 (F__law_listed (ad K) n) dl__law_listed
  | 0 => by
    obtain ⟨fd, fdd⟩ := T.d__law_listed
    exact ⟨_, fd, _, zfn (den := fun _ _ => .bad) fdd sc__law_listed rfl (fun cdv A outer s H E G => zb_bad) (fun ds S _ _ _ => Ref.same rfl), T.m__law_listed, fdd.kp, (binds_none fdd fun _ _ _ _ _ _ us hl => match us, hl with | [_, _, _], _ => rfl)⟩
  | n + 1 => by
    obtain ⟨fd, fdd⟩ := T.d__law_listed
    have IH := ok__law_listed T n
    let c := ad K
    exact ⟨_, fd, _, zfn (k := n + 2) (den := den__law_listed (ad K) (F__law_listed (ad K) n)) fdd sc__law_listed rfl (fun cdv A outer s H E G => (zb_cons (zs_if (zt_eq G.room.units (ze_var 2) ze_int) (zb_one (zs_ret (ze_var 1))) zb_nil)
  (zb_cons (zs_setLc (new := false) (own := [("one", 4)]) rfl sc__law_listed.nd (zi_seq (ze_var 1)) (blkOk_by (own := [("one", 4)]) (by kernel_rfl)) (by decide) (fun _ _ _ _ _ => (zg_nm sc__law_listed.nd)) (fun _ _ _ _ _ => zts_nil) (fun _ _ _ _ _ => (zd_call IH 0 (G.room.mono (Nat.le_refl _)) (za_cons (ze_var 0) (za_cons (ze_var 4) (za_cons (ze_sub (ze_var 2) ze_int) za_nil))))))
  (zb_one (zs_ret (ze_ifx (zt_eq G.room.units (zd_call (ok__law_draw T) 0 (G.room.mono (by omega)) (za_cons (ze_var 0) (za_cons ze_int za_nil))) ze_int) (ze_var 3) (ze_tuple T.b_tuple (za_cons (ze_var 3) za_nil)))))))) (fun ds S _ _ _ => Ref.same rfl), T.m__law_listed, fdd.kp, (binds_none fdd fun _ _ _ _ _ _ us hl => match us, hl with | [_, _, _], _ => rfl)⟩
theorem sc__law_checked : FnScope ["heap", "calls", "table", "value", "state", "c", "v", "many", "lot", "odd", "values", "row", "wrong"] ["heap", "calls", "table"] (defScope s__law_checked) := ⟨rfl, rfl, rfl, by decide +kernel, rfl, by decide +kernel, by decide +kernel⟩
theorem fn__law_checked {P : Program} {w : World} {K : PySem.W.Frag} {mg : Str → Option Value} {base : Heap} (T : Tx P w K mg base) {fd : FuncData} (fdd : FunD K "_law_checked" "_law_checked" (defArgs s__law_checked) (defBody s__law_checked) (defScope s__law_checked) [] [] (He.ga K "_law_checked") fd) : FnOk P w K mg base (L2.CX P w) 11 (He.ga K "_law_checked") fd ["heap", "calls", "table"] (spI K 3 (F__law_checked (ad K))) :=
  zfn (k := 10) (den := den__law_checked (ad K)) fdd sc__law_checked rfl (fun cdv A outer s H E G => (zb_cons (zs_for G.pass rfl (zi_seq (ze_lv (zl_lst (za_cons ze_non (za_cons (ze_tup za_nil lenA_nil) (za_cons ze_str (za_cons (ze_tup (za_cons ze_non za_nil) (lenA_cons lenA_nil)) (za_cons (ze_tup (za_cons (ze_tup (za_cons ze_int za_nil) (lenA_cons lenA_nil)) za_nil) (lenA_cons lenA_nil)) (za_cons (ze_tup (za_cons (ze_tup (za_cons ze_int (za_cons ze_int za_nil)) (lenA_cons (lenA_cons lenA_nil))) za_nil) (lenA_cons lenA_nil)) (za_cons (ze_tup (za_cons (ze_tup (za_cons ze_int (za_cons ze_int za_nil)) (lenA_cons (lenA_cons lenA_nil))) za_nil) (lenA_cons lenA_nil)) (za_cons (ze_tup (za_cons (ze_tup (za_cons ze_int (za_cons ze_bl za_nil)) (lenA_cons (lenA_cons lenA_nil))) za_nil) (lenA_cons lenA_nil)) (za_cons (ze_repT (ze_tup (za_cons (ze_tup (za_cons ze_int (za_cons ze_int za_nil)) (lenA_cons (lenA_cons lenA_nil))) za_nil) (lenA_cons lenA_nil)) ze_int) (za_cons (ze_tup (za_cons (ze_tup (za_cons ze_int (za_cons ze_int (za_cons ze_int za_nil))) (lenA_cons (lenA_cons (lenA_cons lenA_nil)))) za_nil) (lenA_cons lenA_nil)) (za_cons ze_int za_nil))))))))))) (lenA_cons (lenA_cons (lenA_cons (lenA_cons (lenA_cons (lenA_cons (lenA_cons (lenA_cons (lenA_cons (lenA_cons (lenA_cons lenA_nil)))))))))))))) (zg_nm sc__law_checked.nd) (zb_one (zs_if (zt_ne G.room.units (zd_call (ok__law_tried T) 0 (G.room.mono (by decide)) (za_cons (ze_var 3) (za_cons ze_non za_nil))) (ze_tup (za_cons ze_str (za_cons ze_str za_nil)) (lenA_cons (lenA_cons lenA_nil)))) (zb_one (zs_ret ze_bl)) zb_nil)))
  (zb_cons (zs_for G.pass rfl (zi_seq (ze_lv (zl_lst (za_cons ze_non (za_cons (ze_tup za_nil lenA_nil) (za_cons ze_str (za_cons ze_int (za_cons ze_dct (za_cons (ze_repT (ze_slice (ze_var 2) zo_none (zo_some ze_int)) ze_int) za_nil)))))) (lenA_cons (lenA_cons (lenA_cons (lenA_cons (lenA_cons (lenA_cons lenA_nil))))))))) (zg_nm sc__law_checked.nd) (zb_one (zs_if (zt_ne G.room.units (zd_call (ok__law_tried T) 0 (G.room.mono (by decide)) (za_cons (ze_var 1) (za_cons (ze_var 3) za_nil))) (ze_tup (za_cons ze_str (za_cons ze_str za_nil)) (lenA_cons (lenA_cons lenA_nil)))) (zb_one (zs_ret ze_bl)) zb_nil)))
  (zb_cons (zs_par rfl sc__law_checked.nd (zd_call (ok__law_draw T) 0 (G.room.mono (by decide)) (za_cons (ze_var 0) (za_cons (ze_len T.b_len (za_cons (ze_var 2) za_nil)) za_nil))) (zd_call (ok__law_draw T) 0 (G.room.mono (by decide)) (za_cons (ze_var 0) (za_cons (ze_len T.b_len (za_cons (ze_var 1) za_nil)) za_nil))))
  (zb_cons (zs_par rfl sc__law_checked.nd (zd_call (ok__law_draw T) 0 (G.room.mono (by decide)) (za_cons (ze_var 0) (za_cons (ze_sub_ix (ze_sub_ix (ze_var 1) (ze_var 5)) ze_int) za_nil))) (ze_len T.b_len (za_cons (ze_var 2) za_nil)))
  (zb_cons (zs_set sc__law_checked.nd (ze_sub_ix (ze_sub_ix (ze_sub_ix (ze_var 2) (ze_var 4)) (ze_var 5)) (ze_var 6)))
  (zb_cons (zs_set sc__law_checked.nd (ze_lv (zl_lst (za_cons (ze_tup za_nil lenA_nil) (za_cons ze_non (za_cons (ze_lv (zl_list rfl T.b_list (za_cons (ze_var 8) za_nil))) (za_cons (ze_plus (ze_var 8) (ze_slice (ze_var 8) zo_none (zo_some ze_int))) (za_cons (ze_tup (za_cons (ze_tup (za_cons (ze_sub_ix (ze_sub_ix (ze_var 1) (ze_var 5)) ze_int) (za_cons ze_int za_nil)) (lenA_cons (lenA_cons lenA_nil))) za_nil) (lenA_cons lenA_nil)) (za_cons (ze_tup (za_cons (ze_tup (za_cons ze_int (za_cons (ze_var 7) za_nil)) (lenA_cons (lenA_cons lenA_nil))) za_nil) (lenA_cons lenA_nil)) (za_cons (ze_tup (za_cons (ze_tup (za_cons ze_int za_nil) (lenA_cons lenA_nil)) za_nil) (lenA_cons lenA_nil)) (za_cons (ze_tup (za_cons (ze_tup (za_cons ze_int (za_cons ze_int (za_cons ze_int za_nil))) (lenA_cons (lenA_cons (lenA_cons lenA_nil)))) za_nil) (lenA_cons lenA_nil)) (za_cons (ze_tup (za_cons (ze_tup (za_cons (ze_neg ze_int) (za_cons ze_int za_nil)) (lenA_cons (lenA_cons lenA_nil))) za_nil) (lenA_cons lenA_nil)) (za_cons (ze_tup (za_cons (ze_tup (za_cons ze_bl (za_cons ze_int za_nil)) (lenA_cons (lenA_cons lenA_nil))) za_nil) (lenA_cons lenA_nil)) (za_cons (ze_tup (za_cons (ze_tup (za_cons ze_int (za_cons ze_non za_nil)) (lenA_cons (lenA_cons lenA_nil))) za_nil) (lenA_cons lenA_nil)) (za_cons (ze_tup (za_cons (ze_lv (zl_lst (za_cons ze_int (za_cons ze_int za_nil)) (lenA_cons (lenA_cons lenA_nil)))) za_nil) (lenA_cons lenA_nil)) za_nil)))))))))))) (lenA_cons (lenA_cons (lenA_cons (lenA_cons (lenA_cons (lenA_cons (lenA_cons (lenA_cons (lenA_cons (lenA_cons (lenA_cons (lenA_cons lenA_nil)))))))))))))))
  (zb_cons (zs_set sc__law_checked.nd (ze_sub_ix (ze_sub_ix (ze_var 2) (ze_var 4)) (ze_var 5)))
  (zb_cons (zs_set sc__law_checked.nd (ze_plus (ze_plus (ze_slice (ze_sub_ix (ze_var 2) (ze_var 4)) zo_none (zo_some (ze_var 5))) (ze_tup (za_cons (ze_plus (ze_plus (ze_slice (ze_var 10) zo_none (zo_some (ze_var 6))) (ze_tup (za_cons (zd_call (ok__law_pick T) 0 (G.room.mono (by decide)) (za_cons (ze_var 0) (za_cons (ze_var 9) za_nil))) za_nil) (lenA_cons lenA_nil))) (ze_slice (ze_var 10) (zo_some (ze_plus (ze_var 6) ze_int)) zo_none)) za_nil) (lenA_cons lenA_nil))) (ze_slice (ze_sub_ix (ze_var 2) (ze_var 4)) (zo_some (ze_plus (ze_var 5) ze_int)) zo_none)))
  (zb_cons (zs_set sc__law_checked.nd (ze_plus (ze_plus (ze_slice (ze_var 2) zo_none (zo_some (ze_var 4))) (ze_tup (za_cons (ze_var 11) za_nil) (lenA_cons lenA_nil))) (ze_slice (ze_var 2) (zo_some (ze_plus (ze_var 4) ze_int)) zo_none)))
  (zb_cons (zs_if (zt_not (zt_val (zd_call (ok__law_like T 9) 0 (G.room.mono (by decide)) (za_cons (zd_call (ok__law_tried T) 0 (G.room.mono (by decide)) (za_cons (ze_var 1) (za_cons (ze_var 12) za_nil))) (za_cons (ze_tup (za_cons ze_str (za_cons (ze_tup (za_cons (ze_var 4) (za_cons (ze_var 5) (za_cons (ze_var 6) za_nil))) (lenA_cons (lenA_cons (lenA_cons lenA_nil)))) za_nil)) (lenA_cons (lenA_cons lenA_nil))) za_nil))))) (zb_one (zs_ret ze_bl)) zb_nil)
  (zb_cons (zs_set sc__law_checked.nd (ze_plus (ze_plus (ze_slice (ze_sub_ix (ze_var 2) (ze_var 4)) zo_none (zo_some (ze_var 5))) (ze_tup (za_cons (zd_call (ok__law_pick T) 0 (G.room.mono (by decide)) (za_cons (ze_var 0) (za_cons (ze_lv (zl_lst (za_cons ze_non (za_cons (ze_plus (ze_var 10) (ze_slice (ze_var 10) zo_none (zo_some ze_int))) (za_cons (ze_slice (ze_var 10) (zo_some ze_int) zo_none) (za_cons ze_str (za_cons ze_int za_nil))))) (lenA_cons (lenA_cons (lenA_cons (lenA_cons (lenA_cons lenA_nil))))))) za_nil))) za_nil) (lenA_cons lenA_nil))) (ze_slice (ze_sub_ix (ze_var 2) (ze_var 4)) (zo_some (ze_plus (ze_var 5) ze_int)) zo_none)))
  (zb_cons (zs_set sc__law_checked.nd (ze_plus (ze_plus (ze_slice (ze_var 2) zo_none (zo_some (ze_var 4))) (ze_tup (za_cons (ze_var 11) za_nil) (lenA_cons lenA_nil))) (ze_slice (ze_var 2) (zo_some (ze_plus (ze_var 4) ze_int)) zo_none)))
  (zb_cons (zs_if (zt_not (zt_val (zd_call (ok__law_like T 9) 0 (G.room.mono (by decide)) (za_cons (zd_call (ok__law_tried T) 0 (G.room.mono (by decide)) (za_cons (ze_var 1) (za_cons (ze_var 12) za_nil))) (za_cons (ze_tup (za_cons ze_str (za_cons (ze_tup (za_cons (ze_var 4) (za_cons (ze_var 5) (za_cons (ze_neg ze_int) za_nil))) (lenA_cons (lenA_cons (lenA_cons lenA_nil)))) za_nil)) (lenA_cons (lenA_cons lenA_nil))) za_nil))))) (zb_one (zs_ret ze_bl)) zb_nil)
  (zb_cons (zs_set sc__law_checked.nd (zd_call (ok__law_pick T) 0 (G.room.mono (by decide)) (za_cons (ze_var 0) (za_cons (ze_lv (zl_lst (za_cons ze_non (za_cons (ze_plus (ze_sub_ix (ze_var 2) (ze_var 4)) (ze_tup (za_cons (ze_var 10) za_nil) (lenA_cons lenA_nil))) (za_cons (ze_tup za_nil lenA_nil) (za_cons ze_int za_nil)))) (lenA_cons (lenA_cons (lenA_cons (lenA_cons lenA_nil)))))) za_nil))))
  (zb_one (zs_ret (zd_call (ok__law_like T 9) 0 (G.room.mono (by decide)) (za_cons (zd_call (ok__law_tried T) 0 (G.room.mono (by decide)) (za_cons (ze_var 1) (za_cons (ze_plus (ze_plus (ze_slice (ze_var 2) zo_none (zo_some (ze_var 4))) (ze_tup (za_cons (ze_var 11) za_nil) (lenA_cons lenA_nil))) (ze_slice (ze_var 2) (zo_some (ze_plus (ze_var 4) ze_int)) zo_none)) za_nil))) (za_cons (ze_tup (za_cons ze_str (za_cons (ze_tup (za_cons (ze_var 4) (za_cons ze_int (za_cons (ze_neg ze_int) za_nil))) (lenA_cons (lenA_cons (lenA_cons lenA_nil)))) za_nil)) (lenA_cons (lenA_cons lenA_nil))) za_nil)))))))))))))))))))) (fun ds S _ _ _ => Ref.same rfl)
theorem ok__law_checked {P : Program} {w : World} {K : PySem.W.Frag} {mg : Str → Option Value} {base : Heap} (T : Tx P w K mg base) : Df P w K mg base "_law_checked" 11 3 (F__law_checked (ad K)) dl__law_checked := by
  obtain ⟨fd, fdd⟩ := T.d__law_checked
  exact ⟨_, fd, _, fn__law_checked T fdd, T.m__law_checked, fdd.kp, (binds_none fdd fun _ _ _ _ _ _ us hl => match us, hl with | [_, _, _], _ => rfl)⟩
theorem sc__law_reached : FnScope ["table", "calls", "start", "found", "at", "c", "v", "after", "pair", "one"] ["table", "calls", "start"] (defScope s__law_reached) := ⟨rfl, rfl, rfl, by decide +kernel, rfl, by decide +kernel, by decide +kernel⟩
theorem fn__law_reached {P : Program} {w : World} {K : PySem.W.Frag} {mg : Str → Option Value} {base : Heap} (T : Tx P w K mg base) {fd : FuncData} (fdd : FunD K "_law_reached" "_law_reached" (defArgs s__law_reached) (defBody s__law_reached) (defScope s__law_reached) [] [] (He.ga K "_law_reached") fd) : FnOk P w K mg base (L2.CX P w) 1 (He.ga K "_law_reached") fd ["table", "calls", "start"] (spI K 3 (F__law_reached (ad K))) :=
  zfn (k := 0) (den := den__law_reached (ad K)) fdd sc__law_reached rfl (fun cdv A outer s H E G => (zb_cons (zs_asg (ze_tup (za_cons (ze_lv (zl_lst (za_cons (ze_var 2) za_nil) (lenA_cons lenA_nil))) (za_cons ze_int za_nil)) (lenA_cons (lenA_cons lenA_nil))) (zg_tp rfl (zgs_cons (zg_nm sc__law_reached.nd) (zgs_cons (zg_nm sc__law_reached.nd) zgs_nil))))
  (zb_cons (zs_while 8 G.pass (zt_lt (ze_var 4) (ze_len T.b_len (za_cons (ze_var 3) za_nil))) (zb_cons (zs_for G.pass rfl (zi_r1 T.b_range (za_cons (ze_len T.b_len (za_cons (ze_var 1) za_nil)) za_nil)) (zg_nm sc__law_reached.nd) (zb_one (zs_for G.pass rfl (zi_r1 T.b_range (za_cons (ze_sub_ix (ze_sub_ix (ze_var 1) (ze_var 5)) ze_int) za_nil)) (zg_nm sc__law_reached.nd) (zb_one (zs_for G.pass rfl (zi_seq (ze_lv (zl_sortSet rfl G.room.units T.b_sorted T.b_set (za_cons (ze_lv (zl_lc (own := [("pair", 8)]) rfl sc__law_reached.nd (zi_seq (ze_sub_ix (ze_sub_ix (ze_sub_ix (ze_var 0) (ze_sub_ix (ze_var 3) (ze_var 4))) (ze_var 5)) (ze_var 6))) (blkOk_by (own := [("pair", 8)]) (by kernel_rfl)) (by decide) (fun _ _ _ _ _ => (zg_nm sc__law_reached.nd)) (fun _ _ _ _ _ => zts_nil) (fun _ _ _ _ _ => (ze_sub_ix (ze_var 8) ze_int)))) za_nil)))) (zg_nm sc__law_reached.nd) (zb_one (zs_set sc__law_reached.nd (ze_lv (zl_cat (ze_var 3) (ze_lv (zl_lc (own := [("one", 9)]) rfl sc__law_reached.nd (zi_seq (ze_lv (zl_lst (za_cons ze_int za_nil) (lenA_cons lenA_nil)))) (blkOk_by (own := [("one", 9)]) (by kernel_rfl)) (by decide) (fun _ _ _ _ _ => (zg_nm sc__law_reached.nd)) (fun _ _ _ _ _ => (zts_one (zt_notin (hu65 G.room) (ze_var 7) (ze_var 3)))) (fun _ _ _ _ _ => (ze_var 7)))))))))))))
  (zb_one (zs_aug sc__law_reached.nd ze_int))))
  (zb_one (zs_ret (ze_tuple T.b_tuple (za_cons (ze_var 3) za_nil))))))) (fun ds S _ _ _ => Ref.same rfl)
theorem ok__law_reached {P : Program} {w : World} {K : PySem.W.Frag} {mg : Str → Option Value} {base : Heap} (T : Tx P w K mg base) : Df P w K mg base "_law_reached" 1 3 (F__law_reached (ad K)) dl__law_reached := by
  obtain ⟨fd, fdd⟩ := T.d__law_reached
  exact ⟨_, fd, _, fn__law_reached T fdd, T.m__law_reached, fdd.kp, (binds_none fdd fun _ _ _ _ _ _ us hl => match us, hl with | [_, _, _], _ => rfl)⟩
theorem sc_law : FnScope ["script", "heap", "turn", "calls", "table", "word", "thing", "pairs", "c", "v", "lots", "state", "lot", "start", "again", "due", "odd", "value", "wide", "long"] ["script"] (defScope s_law) := ⟨rfl, rfl, rfl, by decide +kernel, rfl, by decide +kernel, by decide +kernel⟩
theorem fn_law {P : Program} {w : World} {K : PySem.W.Frag} {mg : Str → Option Value} {base : Heap} (T : Tx P w K mg base) {fd : FuncData} (fdd : FunD K "law" "law" (defArgs s_law) (defBody s_law) (defScope s_law) [] [] (He.ga K "law") fd) : FnOk P w K mg base (L2.CX P w) 12 (He.ga K "law") fd ["script"] (spI K 1 (F_law (ad K))) :=
  zfn (k := 11) (den := den_law (ad K)) fdd sc_law rfl (fun cdv A outer s H E G => (zb_cons (zs_set sc_law.nd (zd_call (ok__law_heap T) 0 (G.room.mono (by decide)) (za_cons (ze_var 0) za_nil)))
  (zb_cons (zs_for G.pass rfl (zi_r1 T.b_range (za_cons ze_int za_nil)) (zg_nm sc_law.nd) (zb_cons (zs_asg (zd_call (ok__law_thing T) 0 (G.room.mono (by decide)) (za_cons (ze_var 1) (za_cons (ze_eq G.room.units (zd_call (ok__law_draw T) 0 (G.room.mono (by decide)) (za_cons (ze_var 1) (za_cons ze_int za_nil))) ze_int) za_nil))) (zg_tp rfl (zgs_cons (zg_nm sc_law.nd) (zgs_cons (zg_nm sc_law.nd) zgs_nil))))
  (zb_cons (zs_asg (zd_call (ok__law_tried T) 0 (G.room.mono (by decide)) (za_cons (zd_call (ok__law_listed T 5) 0 (G.room.mono (by decide)) (za_cons (ze_var 1) (za_cons (ze_var 3) (za_cons ze_int za_nil)))) (za_cons (zd_call (ok__law_listed T 5) 0 (G.room.mono (by decide)) (za_cons (ze_var 1) (za_cons (ze_var 4) (za_cons ze_int za_nil)))) za_nil))) (zg_tp rfl (zgs_cons (zg_nm sc_law.nd) (zgs_cons (zg_nm sc_law.nd) zgs_nil))))
  (zb_cons (zs_if (zt_w (zw_or (zt_ne G.room.units (ze_var 5) ze_str) (zw_or (zt_not (zt_val (ze_isi T.kit T.b_isinstance (za_cons (ze_var 6) (za_cons (ze_glob (v := V.ref (ad K).Thing) T.m_Thing rfl fun _ _ _ => RDa _) za_nil))))) (zw_or1 (zt_not (zt_val (zd_call (ok__law_like T 9) 0 (G.room.mono (by decide)) (za_cons (ze_tup (za_cons (ze_fld T.na_calls (ze_var 6)) (za_cons (ze_fld T.na_table (ze_var 6)) za_nil)) (lenA_cons (lenA_cons lenA_nil))) (za_cons (ze_tup (za_cons (ze_var 3) (za_cons (ze_var 4) za_nil)) (lenA_cons (lenA_cons lenA_nil))) za_nil))))))))) (zb_one (zs_ret ze_bl)) zb_nil)
  (zb_cons (zs_set sc_law.nd (ze_lv (zl_lst za_nil lenA_nil)))
  (zb_cons (zs_for G.pass rfl (zi_r1 T.b_range (za_cons (ze_len T.b_len (za_cons (ze_var 3) za_nil)) za_nil)) (zg_nm sc_law.nd) (zb_one (zs_set sc_law.nd (ze_lv (zl_cat (ze_var 7) (ze_lv (zl_lc (own := [("v", 9)]) rfl sc_law.nd (zi_r1 T.b_range (za_cons (ze_sub_ix (ze_sub_ix (ze_var 3) (ze_var 8)) ze_int) za_nil)) (blkOk_by (own := [("v", 9)]) (by kernel_rfl)) (by decide) (fun _ _ _ _ _ => (zg_nm sc_law.nd)) (fun _ _ _ _ _ => zts_nil) (fun _ _ _ _ _ => (ze_tup (za_cons (ze_var 8) (za_cons (ze_var 9) za_nil)) (lenA_cons (lenA_cons lenA_nil)))))))))))
  (zb_cons (zs_if (zt_w (zw_or (zt_not (zt_val (zd_call (ok__law_like T 9) 0 (G.room.mono (by decide)) (za_cons (zd_call (ok_calls_of T) 0 (G.room.mono (by decide)) (za_cons (ze_var 6) za_nil)) (za_cons (ze_tuple T.b_tuple (za_cons (ze_var 7) za_nil)) za_nil))))) (zw_or1 (zt_not (zt_val (zd_call (ok__law_like T 9) 0 (G.room.mono (by decide)) (za_cons (zd_call (ok_states_of T) 0 (G.room.mono (by decide)) (za_cons (ze_var 6) za_nil)) (za_cons (ze_len T.b_len (za_cons (ze_var 4) za_nil)) za_nil)))))))) (zb_one (zs_ret ze_bl)) zb_nil)
  (zb_cons (zs_set sc_law.nd (ze_ln (zl_lst za_nil lenA_nil)))
  (zb_cons (zs_for G.pass rfl (zi_r1 T.b_range (za_cons (ze_len T.b_len (za_cons (ze_var 4) za_nil)) za_nil)) (zg_nm sc_law.nd) (zb_one (zs_for G.pass rfl (zi_seq (ze_var 7)) (zg_tp rfl (zgs_cons (zg_nm sc_law.nd) (zgs_cons (zg_nm sc_law.nd) zgs_nil))) (zb_cons (zs_drop (ze_app (ze_var 10) (za_cons (ze_sub_ix (ze_sub_ix (ze_sub_ix (ze_var 4) (ze_var 11)) (ze_var 8)) (ze_var 9)) za_nil)))
  (zb_one (zs_if (zt_not (zt_val (zd_call (ok__law_like T 9) 0 (G.room.mono (by decide)) (za_cons (zd_call (ok_pairs_of T) 0 (G.room.mono (by decide)) (za_cons (ze_var 6) (za_cons (ze_var 11) (za_cons (ze_var 8) (za_cons (ze_var 9) za_nil))))) (za_cons (ze_sub_ix (ze_sub_ix (ze_sub_ix (ze_var 4) (ze_var 11)) (ze_var 8)) (ze_var 9)) za_nil))))) (zb_one (zs_ret ze_bl)) zb_nil))))))
  (zb_cons (zs_if (zt_not (zt_val (zd_call (ok__law_like T 9) 0 (G.room.mono (by decide)) (za_cons (zd_call (ok_is_sure T) 0 (G.room.mono (by decide)) (za_cons (ze_var 6) za_nil)) (za_cons (ze_eq G.room.units (ze_max rfl T.b_max (za_cons (ze_lv (zl_lc (own := [("lot", 12)]) rfl sc_law.nd (zi_seq (ze_var 10)) (blkOk_by (own := [("lot", 12)]) (by kernel_rfl)) (by decide) (fun _ _ _ _ _ => (zg_nm sc_law.nd)) (fun _ _ _ _ _ => zts_nil) (fun _ _ _ _ _ => (ze_len T.b_len (za_cons (ze_var 12) za_nil))))) za_nil)) ze_int) za_nil))))) (zb_one (zs_ret ze_bl)) zb_nil)
  (zb_cons (zs_set sc_law.nd (zd_call (ok__law_draw T) 0 (G.room.mono (by decide)) (za_cons (ze_var 1) (za_cons (ze_len T.b_len (za_cons (ze_var 4) za_nil)) za_nil))))
  (zb_cons (zs_if (zt_not (zt_val (zd_call (ok__law_like T 9) 0 (G.room.mono (by decide)) (za_cons (zd_call (ok_reached_states T) 0 (G.room.mono (by decide)) (za_cons (ze_var 6) (za_cons (ze_var 13) za_nil))) (za_cons (zd_call (ok__law_reached T) 0 (G.room.mono (by decide)) (za_cons (ze_var 4) (za_cons (ze_var 3) (za_cons (ze_var 13) za_nil)))) za_nil))))) (zb_one (zs_ret ze_bl)) zb_nil)
  (zb_cons (zs_for G.pass rfl (zi_r1 T.b_range (za_cons ze_int za_nil)) (zg_nm sc_law.nd) (zb_cons (zs_set sc_law.nd (zd_call (ok__law_pick T) 0 (G.room.mono (by decide)) (za_cons (ze_var 1) (za_cons (ze_lv (zl_lst (za_cons ze_int (za_cons (ze_sub (ze_len T.b_len (za_cons (ze_var 3) za_nil)) ze_int) (za_cons (ze_len T.b_len (za_cons (ze_var 3) za_nil)) (za_cons (ze_neg ze_int) (za_cons ze_non (za_cons ze_bl (za_cons ze_str (za_cons (ze_tup (za_cons ze_int za_nil) (lenA_cons lenA_nil)) za_nil)))))))) (lenA_cons (lenA_cons (lenA_cons (lenA_cons (lenA_cons (lenA_cons (lenA_cons (lenA_cons lenA_nil)))))))))) za_nil))))
  (zb_cons (zs_set sc_law.nd (zd_call (ok__law_pick T) 0 (G.room.mono (by decide)) (za_cons (ze_var 1) (za_cons (ze_lv (zl_lst (za_cons ze_int (za_cons ze_int (za_cons ze_int (za_cons (ze_neg ze_int) (za_cons ze_non (za_cons ze_bl (za_cons ze_str za_nil))))))) (lenA_cons (lenA_cons (lenA_cons (lenA_cons (lenA_cons (lenA_cons (lenA_cons lenA_nil))))))))) za_nil))))
  (zb_cons (zs_set sc_law.nd (ze_and (ze_isi T.kit T.b_isinstance (za_cons (ze_var 8) (za_cons (ze_ty T.b_int) za_nil))) (ze_and (ze_not (ze_isi T.kit T.b_isinstance (za_cons (ze_var 8) (za_cons (ze_ty T.b_bool) za_nil)))) (ze_and (ze_isi T.kit T.b_isinstance (za_cons (ze_var 9) (za_cons (ze_ty T.b_int) za_nil))) (ze_and (ze_not (ze_isi T.kit T.b_isinstance (za_cons (ze_var 9) (za_cons (ze_ty T.b_bool) za_nil)))) (ze_one (ze_in (hu65 G.room) (ze_tup (za_cons (ze_var 8) (za_cons (ze_var 9) za_nil)) (lenA_cons (lenA_cons lenA_nil))) (ze_var 7))))))))
  (zb_one (zs_if (zt_not (zt_val (zd_call (ok__law_like T 9) 0 (G.room.mono (by decide)) (za_cons (zd_call (ok_is_call T) 0 (G.room.mono (by decide)) (za_cons (ze_var 6) (za_cons (ze_var 8) (za_cons (ze_var 9) za_nil)))) (za_cons (ze_var 15) za_nil))))) (zb_one (zs_ret ze_bl)) zb_nil))))))
  (zb_cons (zs_if (zt_notB (zd_call (ok_is_part T) 0 (G.room.mono (by decide)) (za_cons (ze_tup (za_cons (ze_var 6) (za_cons (ze_var 13) za_nil)) (lenA_cons (lenA_cons lenA_nil))) za_nil)) ze_bl) (zb_one (zs_ret ze_bl)) zb_nil)
  (zb_cons (zs_set sc_law.nd (ze_lv (zl_lst (za_cons ze_non (za_cons (ze_var 6) (za_cons (ze_tup (za_cons (ze_var 6) za_nil) (lenA_cons lenA_nil)) (za_cons (ze_lv (zl_lst (za_cons (ze_var 6) (za_cons (ze_var 13) za_nil)) (lenA_cons (lenA_cons lenA_nil)))) (za_cons (ze_tup (za_cons (ze_var 6) (za_cons (ze_len T.b_len (za_cons (ze_var 4) za_nil)) za_nil)) (lenA_cons (lenA_cons lenA_nil))) (za_cons (ze_tup (za_cons (ze_var 6) (za_cons (ze_neg ze_int) za_nil)) (lenA_cons (lenA_cons lenA_nil))) (za_cons (ze_tup (za_cons (ze_var 6) (za_cons ze_bl za_nil)) (lenA_cons (lenA_cons lenA_nil))) (za_cons (ze_tup (za_cons ze_non (za_cons ze_int za_nil)) (lenA_cons (lenA_cons lenA_nil))) (za_cons (ze_tup (za_cons (ze_var 6) (za_cons (ze_var 13) (za_cons ze_int za_nil))) (lenA_cons (lenA_cons (lenA_cons lenA_nil)))) (za_cons (ze_tup (za_cons (ze_var 4) (za_cons ze_int za_nil)) (lenA_cons (lenA_cons lenA_nil))) za_nil)))))))))) (lenA_cons (lenA_cons (lenA_cons (lenA_cons (lenA_cons (lenA_cons (lenA_cons (lenA_cons (lenA_cons (lenA_cons lenA_nil)))))))))))))
  (zb_one (zs_if (zt_w (zw_or (zt_not (zt_val (ze_all rfl T.b_all (za_cons (ze_lv (zl_lc (own := [("value", 17)]) rfl sc_law.nd (zi_seq (ze_var 16)) (blkOk_by (own := [("value", 17)]) (by kernel_rfl)) (by decide) (fun _ _ _ _ _ => (zg_nm sc_law.nd)) (fun _ _ _ _ _ => zts_nil) (fun _ _ _ _ _ => (ze_isB (zd_call (ok_is_part T) 0 (G.room.mono (by decide)) (za_cons (ze_var 17) za_nil)) ze_bl)))) za_nil)))) (zw_or1 (zt_not (zt_val (zd_call (ok__law_checked T) 0 (G.room.mono (by decide)) (za_cons (ze_var 1) (za_cons (ze_var 3) (za_cons (ze_var 4) za_nil))))))))) (zb_one (zs_ret ze_bl)) zb_nil)))))))))))))))))
  (zb_cons (zs_par rfl sc_law.nd (zd_mk (ok_Thing_mk T) 0 (G.room.mono (by decide)) (za_cons (ze_repT (ze_tup (za_cons (ze_tup (za_cons ze_int (za_cons ze_int za_nil)) (lenA_cons (lenA_cons lenA_nil))) za_nil) (lenA_cons lenA_nil)) ze_int) (za_cons (ze_tup (za_cons (ze_repT (ze_tup (za_cons (ze_repT (ze_tup (za_cons (ze_tup (za_cons (ze_tup (za_cons ze_int (za_cons ze_int za_nil)) (lenA_cons (lenA_cons lenA_nil))) za_nil) (lenA_cons lenA_nil)) za_nil) (lenA_cons lenA_nil)) ze_int) za_nil) (lenA_cons lenA_nil)) ze_int) za_nil) (lenA_cons lenA_nil)) za_nil))) (zd_mk (ok_Thing_mk T) 0 (G.room.mono (by decide)) (za_cons (ze_tup (za_cons (ze_tup (za_cons ze_int (za_cons ze_int za_nil)) (lenA_cons (lenA_cons lenA_nil))) za_nil) (lenA_cons lenA_nil)) (za_cons (ze_repT (ze_tup (za_cons (ze_tup (za_cons (ze_tup (za_cons (ze_tup (za_cons (ze_tup (za_cons ze_int (za_cons ze_int za_nil)) (lenA_cons (lenA_cons lenA_nil))) za_nil) (lenA_cons lenA_nil)) za_nil) (lenA_cons lenA_nil)) za_nil) (lenA_cons lenA_nil)) za_nil) (lenA_cons lenA_nil)) ze_int) za_nil))))
  (zb_one (zs_ret (ze_and (zd_call (ok__law_like T 9) 0 (G.room.mono (by decide)) (za_cons (zd_call (ok_states_of T) 0 (G.room.mono (by decide)) (za_cons (ze_var 19) za_nil)) (za_cons ze_int za_nil))) (ze_one (zd_call (ok__law_like T 9) 0 (G.room.mono (by decide)) (za_cons (ze_tup (za_cons (zd_call (ok_pairs_of T) 0 (G.room.mono (by decide)) (za_cons (ze_var 18) (za_cons ze_int (za_cons ze_int (za_cons ze_int za_nil))))) (za_cons (zd_call (ok_pairs_of T) 0 (G.room.mono (by decide)) (za_cons (ze_var 19) (za_cons ze_int (za_cons ze_int (za_cons ze_int za_nil))))) za_nil)) (lenA_cons (lenA_cons lenA_nil))) (za_cons (ze_tup (za_cons (ze_tup (za_cons (ze_tup (za_cons ze_int (za_cons ze_int za_nil)) (lenA_cons (lenA_cons lenA_nil))) za_nil) (lenA_cons lenA_nil)) (za_cons (ze_tup (za_cons (ze_tup (za_cons ze_int (za_cons ze_int za_nil)) (lenA_cons (lenA_cons lenA_nil))) za_nil) (lenA_cons lenA_nil)) za_nil)) (lenA_cons (lenA_cons lenA_nil))) za_nil))))))))))) (fun ds S _ _ _ => Ref.same rfl)
theorem ok_law {P : Program} {w : World} {K : PySem.W.Frag} {mg : Str → Option Value} {base : Heap} (T : Tx P w K mg base) : Df P w K mg base "law" 12 1 (F_law (ad K)) dl_law := by
  obtain ⟨fd, fdd⟩ := T.d_law
  exact ⟨_, fd, _, fn_law T fdd, T.m_law, fdd.kp, (binds_none fdd fun _ _ _ _ _ _ us hl => match us, hl with | [_], _ => rfl)⟩
end Z.k01
namespace Z.k01
open PySem L2 Z
theorem facts {P : Program} {w : World} {K : PySem.W.Frag} {mg : Str → Option Value} {h : Heap} {fa : Addr} (X : K.In h) (G : h.Ns mainGlobals mg) (hfa : mg "law" = some (.ref fa)) (c : He.SaysD fa_k01 fn_k01 K) (e : (ex_k01 P K).all id = true) (h2 : hE_InvalidThing K) :
    ∃ fd : FuncData, (∀ (s : Shared) (v : Value), BindsTo s fd ⟨[v], []⟩ [("script", v)]) ∧ ∀ base : Heap, K.In base → base.Ns mainGlobals mg → FnOk P w K mg base (L2.CX P w) 12 fa fd ["script"] (spI K 1 (F_law (ad K))) := by
  have T : ∀ base, Tx P w K mg base := fun base => tx_of X G c e h2
  obtain ⟨fd, fdd⟩ := (T h).d_law
  have q := (T h).m_law
  rw [hfa] at q
  cases q
  have b := FunD.bindsA (ps := ["script"]) fdd fun _ _ _ _ _ _ us hl => match us, hl with | [_], _ => rfl
  exact ⟨fd, fun s v => b s [v] rfl, fun base _ _ => fn_law (T base) fdd⟩
end Z.k01
open PySem PySem.W PySem.Calls PyProof.Rows
theorem PySem.Challenge.cw_wholestrokes_k01_whole_things_and_what_t_holds : PySem.Challenge.rw_wholestrokes_k01_whole_things_and_what_t.Holds := by
  refine hd01 ?_
  refine Z.walk_Z (l := PySem.Challenge.rw_wholestrokes_k01_whole_things_and_what_t) (k := 12) (F := fun K => Z.k01.F_law (Z.k01.ad K)) rfl rfl ⟨rfl, by decide, by decide⟩ (fun w h Y => PySem.W.kIn_of Y) ?F (fun K ns h => Z.k01.law_true _ ns h)
  case F =>
    intro w mg fa h KX G hmg
    refine Z.k01.facts KX G hmg ?c ?e ?h2
    case e => kernel_rfl
    case c => show He.obsD _ _ _ = _; kernel_rfl
    case h2 => unfold Z.k01.hE_InvalidThing; kernel_rfl
