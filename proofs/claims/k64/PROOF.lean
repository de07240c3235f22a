import PyProof.Rows.All
import Wide.All
import OpenK.AllK
import Wide.FinOn
import HandS.ForMost
import HandS.ForExc
import HandS.Flow
import HandS.IsInst
import HandS.CallSlots
import HandS.Walk
import HandS.Lambda
import HandS.Style
import HandS.Deep
import HandS.TupAny
import HandS.TupLe
import HandS.NoneIn
import HandS.Wide
import HandS.Defaults
import HandS.Zip
import KE.GoesEnum
import KE.KExcSuper
import HandS.ExcInit
import HandS.ExcField
import HandS.ExcIs
import HandS.TryOnly
import HandS.Head0
import HandS.Head1
import HandS.Head2
import HandS.HeadEnd
import HandS.HeadHook1
import HandS.HeadHook2
import HandS.Ends
import HandS.TupSets
import HandS.TupMul
import HandS.SetKeys
import HandS.SortInts
import HandS.SetFor
import HandS.Strs
import HandS.EndOwn
import HandS.Conv
import PySem.Challenge.RW_wholestrokes_k64_whole_disks_that_are_cu
set_option Elab.async false
set_option linter.all false
set_option maxRecDepth 100000
set_option maxHeartbeats 0
/-! Z: values as plain data, a store of what changes, and the heap that bears both. -/
namespace Z
open PySem L2

/-- a value: tuples and lists that nobody changes by what is in them; what is changed by its number in the store -/
inductive D where
  | non | bl (b : Bool) | int (i : Int) | str (s : Str) | tup (ds : List D) | lst (ds : List D) | scr (ds : List D) | ref (n : Nat) | adr (a : Addr) | ty (n : String)
/-- what may change -/
inductive O where
  | lst (ds : List D) | ins (c : Addr) (fs : List (Str × D)) | dct (kvs : List (Key × D)) | dcT (kvs : List (List Key × D)) | iset (p : Int → Bool) (n : Nat) | tab (P : Addr) (q : Str)
abbrev Sto := List O
/-- what comes of an expression: a value, an error of an own class with its one value, nothing that is known -/
inductive R (α : Type) where
  | ok (a : α) (S : Sto) | exc (c : Addr) (d : D) (S : Sto) | bad
def R.bind {α β : Type} (r : R α) (f : α → Sto → R β) : R β := match r with
  | .ok a S => f a S
  | .exc c d S => .exc c d S
  | .bad => .bad
@[simp] theorem R.bind_ok {α β : Type} (a : α) (S : Sto) (f : α → Sto → R β) : (R.ok a S).bind f = f a S := rfl
@[simp] theorem R.bind_exc {α β : Type} (c : Addr) (d : D) (S : Sto) (f : α → Sto → R β) : (R.exc c d S : R α).bind f = .exc c d S := rfl
@[simp] theorem R.bind_bad {α β : Type} (f : α → Sto → R β) : (R.bad : R α).bind f = .bad := rfl

abbrev Env := List (Option D)
abbrev DE := Env → Sto → R D
abbrev DA := Env → Sto → R (List D)
abbrev DT := Env → Sto → R Bool

/-! ### the relation -/
/-- no table of code objects -/
def NT (o : HO) : Prop := ∀ ps, o ≠ .tbl ps
/-- nor a thing that tells no kind -/
def NX (o : HO) : Prop := NT o ∧ ∀ f, o ≠ .ext f
/-- new: but for tables, nothing stands there -/
def Nw (H : Hp) (p : Addr) : Prop := ∀ o, H p = some o → ¬ NT o
theorem nw_none {H : Hp} {p : Addr} (h : H p = none) : Nw H p := fun o e => by
  rw [h] at e
  cases e
section
variable (K : PySem.W.Frag) (m B : List Addr) (H : Hp)
def KT (a : Addr) (xs : List V) : Prop :=
  ∃ (o : Obj) (its : Array Value) (n : Nat), K.lookup a = some o ∧ o.cls = .type "tuple" ∧ o.data = .seq its n ∧ its.size ≤ sizeLine ∧ Vals xs its.toList
def KL (a : Addr) (xs : List V) : Prop :=
  ∃ (o : Obj) (its : Array Value) (n : Nat), K.lookup a = some o ∧ o.cls = .type "list" ∧ o.dict = none ∧ o.data = .seq its n ∧ its.size ≤ sizeLine ∧ Vals xs its.toList
def FT (a : Addr) (xs : List V) : Prop := (a ∉ m ∧ a ∉ B ∧ Rd H a (.tup xs)) ∨ KT K a xs
def FN (m B : List Addr) (H : Hp) (a : Addr) (xs : List V) : Prop := a ∉ m ∧ a ∉ B ∧ H a = some (.lst xs)
def FL (a : Addr) (xs : List V) : Prop := (a ∉ m ∧ a ∉ B ∧ Rd H a (.lst xs)) ∨ KL K a xs
mutual
def RD : D → V → Prop
  | .non, v => v = .non
  | .bl b, v => v = .bl b
  | .int i, v => v = .int i
  | .str s, v => v = .str s
  | .tup ds, v => ∃ a vs, v = .ref a ∧ FT K m B H a vs ∧ RDs ds vs
  | .lst ds, v => ∃ a vs, v = .ref a ∧ FN m B H a vs ∧ RDs ds vs
  | .scr ds, v => ∃ a vs, v = .ref a ∧ FL K m B H a vs ∧ RDs ds vs
  | .ref n, v => ∃ a, v = .ref a ∧ m[n]? = some a
  | .adr a, v => v = .ref a
  | .ty n, v => v = .ty n
def RDs : List D → List V → Prop
  | [], vs => vs = []
  | d :: ds, vs => ∃ x r, vs = x :: r ∧ RD d x ∧ RDs ds r
end
def RFs {κ : Type} : List (κ × D) → List (κ × V) → Prop
  | [], vs => vs = []
  | p :: fs, vs => ∃ x r, vs = (p.1, x) :: r ∧ RD K m B H p.2 x ∧ RFs fs r
def REs : Env → L2.St → Prop
  | [], σ => σ = []
  | o :: ρ, σ => ∃ x r, σ = x :: r ∧ (∀ d, o = some d → ∃ v, x = some v ∧ RD K m B H d v) ∧ REs ρ r
def RO (a : Addr) : O → Prop
  | .lst ds => ∃ vs, H a = some (.lst vs) ∧ RDs K m B H ds vs
  | .ins C fs => ∃ dx vs, H a = some (.ins C dx vs) ∧ RFs K m B H fs vs
  | .dct kvs => ∃ vs, H a = some (.dK vs) ∧ RFs K m B H kvs vs
  | .dcT kvs => ∃ vs, H a = some (.dT vs) ∧ RFs K m B H kvs vs
  | .iset p n => H a = some (.set p n)
  | .tab P q => a = P ∧ ∃ ps, H P = some (.tbl ps) ∧ TriplesOk ps.toList ∧ ∀ pos cv, codeAmong pos ps.toList = some cv → ∃ c, cv = .ref c ∧ c ∉ m ∧ c ∉ B ∧ H c = some (LamX.CodeO c q)
structure RS (S : Sto) : Prop where
  len : m.length = S.length
  nd : m.Nodup
  dis : ∀ a ∈ m, a ∉ B
  bn : ∀ b ∈ B, ∃ u, H b = some u ∧ NX u
  ob : ∀ (n : Nat) (a : Addr) (o : O), m[n]? = some a → S[n]? = some o → RO K m B H a o
  tb : ∀ (n : Nat) (P : Addr) (q : Str), S[n]? = some (.tab P q) → n = 0
end
/-- what is not in the store stands as it stood; the store may grow by what is new -/
structure Ge (m : List Addr) (H : Hp) (m' : List Addr) (H' : Hp) : Prop where
  pre : ∃ l, m' = m ++ l
  keep : ∀ b o, b ∉ m → H b = some o → NT o → b ∉ m' ∧ H' b = some o
theorem Ge.refl (m : List Addr) (H : Hp) : Ge m H m H := ⟨⟨[], by simp⟩, fun _ _ h e _ => ⟨h, e⟩⟩
theorem Ge.trans {m m1 m2 : List Addr} {H H1 H2 : Hp} (a : Ge m H m1 H1) (b : Ge m1 H1 m2 H2) : Ge m H m2 H2 := by
  obtain ⟨⟨l, e⟩, k⟩ := a
  obtain ⟨⟨l', e'⟩, k'⟩ := b
  refine ⟨⟨l ++ l', by rw [e', e, List.append_assoc]⟩, fun c o h q nt => ?_⟩
  obtain ⟨h1, q1⟩ := k c o h q nt
  exact k' c o h1 q1 nt
/-- what is borne here is borne there -/
structure Tr (m B : List Addr) (H : Hp) (m' B' : List Addr) (H' : Hp) : Prop where
  at_ : ∀ (n : Nat) (a : Addr), m[n]? = some a → m'[n]? = some a
  rd : ∀ (a : Addr) (u : HO), a ∉ m → a ∉ B → H a = some u → NT u → a ∉ m' ∧ a ∉ B' ∧ H' a = some u
theorem Ge.tr {m m' B : List Addr} {H H' : Hp} (g : Ge m H m' H') : Tr m B H m' B H' := by
  refine ⟨fun n a h => ?_, fun a u h1 h2 h3 h4 => ⟨(g.keep a u h1 h3 h4).1, h2, (g.keep a u h1 h3 h4).2⟩⟩
  obtain ⟨⟨l, rfl⟩, _⟩ := g
  rw [List.getElem?_append_left (List.getElem?_eq_some_iff.mp h).1]
  exact h
section
variable {K : PySem.W.Frag} {m m' B B' : List Addr} {H H' : Hp}
theorem Tr.rds {a : Addr} {u : HO} (g : Tr m B H m' B' H') (hn : a ∉ m) (hb : a ∉ B) (r : Rd H a u) (nt : NT u := by exact fun ps e => (by cases e)) : a ∉ m' ∧ a ∉ B' ∧ Rd H' a u := by
  rcases r with r | ⟨o, r⟩
  · have q := g.rd a _ hn hb r nt
    exact ⟨q.1, q.2.1, .inl q.2.2⟩
  · have q := g.rd a _ hn hb r (fun ps e => by cases e)
    exact ⟨q.1, q.2.1, .inr ⟨o, q.2.2⟩⟩
theorem FT.mono {a : Addr} {xs : List V} (g : Tr m B H m' B' H') (h : FT K m B H a xs) : FT K m' B' H' a xs := h.elim (fun q => .inl (g.rds q.1 q.2.1 q.2.2)) .inr
theorem FL.mono {a : Addr} {xs : List V} (g : Tr m B H m' B' H') (h : FL K m B H a xs) : FL K m' B' H' a xs := h.elim (fun q => .inl (g.rds q.1 q.2.1 q.2.2)) .inr
theorem FN.mono {a : Addr} {xs : List V} (g : Tr m B H m' B' H') (h : FN m B H a xs) : FN m' B' H' a xs := g.rd a _ h.1 h.2.1 h.2.2 (fun ps e => by cases e)
theorem FN.fl {a : Addr} {xs : List V} (h : FN m B H a xs) : FL K m B H a xs := .inl ⟨h.1, h.2.1, .inl h.2.2⟩
theorem FT.sq {a : Addr} {xs : List V} (h : FT K m B H a xs) : SqT K H a xs := h.elim (fun q => .inl q.2.2) .inr
theorem FL.sq {a : Addr} {xs : List V} (h : FL K m B H a xs) : SqL K H a xs := h.elim (fun q => .inl q.2.2) .inr
theorem FN.sq {a : Addr} {xs : List V} (h : FN m B H a xs) : SqL K H a xs := .inl (.inl h.2.2)
mutual
theorem RD.mono (g : Tr m B H m' B' H') : ∀ (d : D) (v : V), RD K m B H d v → RD K m' B' H' d v
  | .non, _, h | .bl _, _, h | .int _, _, h | .str _, _, h | .adr _, _, h | .ty _, _, h => by
    unfold RD at h ⊢
    exact h
  | .tup ds, v, h => by
    unfold RD at h ⊢
    obtain ⟨a, vs, e, f, r⟩ := h
    exact ⟨a, vs, e, f.mono g, RDs.mono g ds vs r⟩
  | .lst ds, v, h => by
    unfold RD at h ⊢
    obtain ⟨a, vs, e, f, r⟩ := h
    exact ⟨a, vs, e, f.mono g, RDs.mono g ds vs r⟩
  | .scr ds, v, h => by
    unfold RD at h ⊢
    obtain ⟨a, vs, e, f, r⟩ := h
    exact ⟨a, vs, e, f.mono g, RDs.mono g ds vs r⟩
  | .ref n, v, h => by
    unfold RD at h ⊢
    obtain ⟨a, e, q⟩ := h
    exact ⟨a, e, g.at_ n a q⟩
theorem RDs.mono (g : Tr m B H m' B' H') : ∀ (ds : List D) (vs : List V), RDs K m B H ds vs → RDs K m' B' H' ds vs
  | [], _, h => by
    unfold RDs at h ⊢
    exact h
  | d :: ds, vs, h => by
    unfold RDs at h ⊢
    obtain ⟨x, r, e, h1, h2⟩ := h
    exact ⟨x, r, e, RD.mono g d x h1, RDs.mono g ds r h2⟩
end
theorem RFs.mono {κ : Type} (g : Tr m B H m' B' H') : ∀ (fs : List (κ × D)) (vs : List (κ × V)), RFs K m B H fs vs → RFs K m' B' H' fs vs
  | [], _, h => h
  | p :: fs, vs, ⟨x, r, e, h1, h2⟩ => ⟨x, r, e, RD.mono g _ _ h1, RFs.mono g fs r h2⟩
theorem REs.mono (g : Tr m B H m' B' H') : ∀ (ρ : Env) (σ : L2.St), REs K m B H ρ σ → REs K m' B' H' ρ σ
  | [], _, h => h
  | o :: ρ, σ, ⟨x, r, e, h1, h2⟩ => ⟨x, r, e, fun d q => let ⟨v, e, z⟩ := h1 d q; ⟨v, e, RD.mono g d v z⟩, REs.mono g ρ r h2⟩
theorem RDs.len : ∀ {ds : List D} {vs : List V}, RDs K m B H ds vs → ds.length = vs.length
  | [], _, h => by unfold RDs at h; rw [h]; rfl
  | d :: ds, vs, h => by
    unfold RDs at h
    obtain ⟨x, r, rfl, _, h2⟩ := h
    simp [RDs.len h2]
theorem RDs.get : ∀ {ds : List D} {vs : List V} {i : Nat} {d : D}, RDs K m B H ds vs → ds[i]? = some d → ∃ v, vs[i]? = some v ∧ RD K m B H d v
  | [], _, _, _, _, e => by simp at e
  | d :: ds, vs, 0, _, h, e => by
    unfold RDs at h
    obtain ⟨x, r, rfl, h1, _⟩ := h
    simp at e
    subst e
    exact ⟨x, rfl, h1⟩
  | d :: ds, vs, i + 1, _, h, e => by
    unfold RDs at h
    obtain ⟨x, r, rfl, _, h2⟩ := h
    simp at e
    exact RDs.get (i := i) h2 e
theorem RDs.nil : RDs K m B H [] [] := by unfold RDs; rfl
theorem RDs.cons {d : D} {v : V} {ds : List D} {vs : List V} (h : RD K m B H d v) (t : RDs K m B H ds vs) : RDs K m B H (d :: ds) (v :: vs) := by
  unfold RDs
  exact ⟨v, vs, rfl, h, t⟩
theorem RDs.app : ∀ {ds ds' : List D} {vs vs' : List V}, RDs K m B H ds vs → RDs K m B H ds' vs' → RDs K m B H (ds ++ ds') (vs ++ vs')
  | [], _, _, _, h, t => by unfold RDs at h; rw [h]; exact t
  | d :: ds, _, _, _, h, t => by
    unfold RDs at h
    obtain ⟨x, r, rfl, h1, h2⟩ := h
    exact RDs.cons h1 (RDs.app h2 t)
theorem RDs.set : ∀ {ds : List D} {vs : List V} {d : D} {v : V} (i : Nat), RDs K m B H ds vs → RD K m B H d v → RDs K m B H (ds.set i d) (vs.set i v)
  | [], _, _, _, _, h, _ => by unfold RDs at h; rw [h]; exact RDs.nil
  | d :: ds, vs, _, _, 0, h, t => by
    unfold RDs at h
    obtain ⟨x, r, rfl, _, h2⟩ := h
    exact RDs.cons t h2
  | d :: ds, vs, _, _, i + 1, h, t => by
    unfold RDs at h
    obtain ⟨x, r, rfl, h1, h2⟩ := h
    exact RDs.cons h1 (RDs.set i h2 t)
theorem RDs.drop : ∀ {ds : List D} {vs : List V} (i : Nat), RDs K m B H ds vs → RDs K m B H (ds.drop i) (vs.drop i)
  | _, _, 0, h => h
  | [], _, i + 1, h => by unfold RDs at h; rw [h]; exact RDs.nil
  | d :: ds, vs, i + 1, h => by
    unfold RDs at h
    obtain ⟨x, r, rfl, _, h2⟩ := h
    exact RDs.drop i h2
theorem RDs.take : ∀ {ds : List D} {vs : List V} (i : Nat), RDs K m B H ds vs → RDs K m B H (ds.take i) (vs.take i)
  | _, _, 0, h => by simp [RDs.nil]
  | [], _, i + 1, h => by unfold RDs at h; rw [h]; exact RDs.nil
  | d :: ds, vs, i + 1, h => by
    unfold RDs at h
    obtain ⟨x, r, rfl, h1, h2⟩ := h
    exact RDs.cons h1 (RDs.take i h2)
theorem RDs.rev : ∀ {ds : List D} {vs : List V}, RDs K m B H ds vs → RDs K m B H ds.reverse vs.reverse
  | [], _, h => by unfold RDs at h; rw [h]; exact RDs.nil
  | d :: ds, vs, h => by
    unfold RDs at h
    obtain ⟨x, r, rfl, h1, h2⟩ := h
    rw [List.reverse_cons, List.reverse_cons]
    exact RDs.app (RDs.rev h2) (RDs.cons h1 RDs.nil)
theorem RDs.dropLast {ds : List D} {vs : List V} (h : RDs K m B H ds vs) : RDs K m B H ds.dropLast vs.dropLast := by
  rw [List.dropLast_eq_take, List.dropLast_eq_take, ← h.len]
  exact RDs.take _ h
theorem REs.get : ∀ {ρ : Env} {σ : L2.St} {i : Nat} {d : D}, REs K m B H ρ σ → ρ[i]? = some (some d) → ∃ v, σ[i]? = some (some v) ∧ RD K m B H d v
  | [], _, _, _, _, e => by simp at e
  | o :: ρ, σ, 0, _, ⟨x, r, e, h1, _⟩, q => by
    subst e
    simp at q
    obtain ⟨v, e, z⟩ := h1 _ q
    exact ⟨v, by simp [e], z⟩
  | o :: ρ, σ, i + 1, _, ⟨x, r, e, _, h2⟩, q => by
    subst e
    simp at q
    exact REs.get (i := i) h2 q
theorem REs.set : ∀ {ρ : Env} {σ : L2.St} {d : D} {v : V} (i : Nat), REs K m B H ρ σ → RD K m B H d v → REs K m B H (ρ.set i (some d)) (σ.set i (some v))
  | [], _, _, _, _, h, _ => by
    have h' : _ = _ := h
    rw [h']
    rfl
  | o :: ρ, σ, d, v, 0, ⟨x, r, e, h1, h2⟩, t => by
    subst e
    exact ⟨some v, r, rfl, fun d' q => ⟨v, rfl, by cases q; exact t⟩, h2⟩
  | o :: ρ, σ, d, v, i + 1, ⟨x, r, e, h1, h2⟩, t => by
    subst e
    exact ⟨x, _, rfl, h1, REs.set i h2 t⟩
theorem REs.setN : ∀ {ρ : Env} {σ : L2.St} (i : Nat), REs K m B H ρ σ → REs K m B H (ρ.set i none) (σ.set i none)
  | [], _, _, h => by
    have h' : _ = _ := h
    rw [h']
    rfl
  | o :: ρ, σ, 0, ⟨x, r, e, h1, h2⟩ => by
    subst e
    exact ⟨none, r, rfl, fun d' q => (nomatch q), h2⟩
  | o :: ρ, σ, i + 1, ⟨x, r, e, h1, h2⟩ => by
    subst e
    exact ⟨x, _, rfl, h1, REs.setN i h2⟩
theorem REs.len : ∀ {ρ : Env} {σ : L2.St}, REs K m B H ρ σ → ρ.length = σ.length
  | [], _, h => by
    have h' : _ = _ := h
    rw [h']
    rfl
  | o :: ρ, σ, ⟨x, r, e, _, h2⟩ => by
    subst e
    simp [REs.len h2]
end
def wipeD (ρ : Env) : List Nat → Env
  | [] => ρ
  | v :: vs => (wipeD ρ vs).set v none
theorem REs.wipe {K : PySem.W.Frag} {m B : List Addr} {H : Hp} {ρ : Env} {σ : L2.St} (h : REs K m B H ρ σ) : ∀ vs, REs K m B H (wipeD ρ vs) (L2.wipe σ vs)
  | [] => h
  | v :: vs => REs.setN v (REs.wipe h vs)

/-! ### the store and the heap -/
section
variable {K : PySem.W.Frag} {m m' B B' : List Addr} {H H' : Hp} {S : Sto}
theorem RS.at (r : RS K m B H S) {n : Nat} {o : O} (h : S[n]? = some o) : ∃ a, m[n]? = some a ∧ RO K m B H a o := by
  have hn : n < m.length := by rw [r.len]; exact (List.getElem?_eq_some_iff.mp h).1
  exact ⟨m[n], by simp [hn], r.ob n _ o (by simp [hn]) h⟩
theorem RS.in {n : Nat} {a : Addr} (h : m[n]? = some a) : a ∈ m := List.mem_of_getElem? h
theorem RO.ex {a : Addr} {o : O} (h : RO K m B H a o) : ∃ u, H a = some u := by
  cases o with
  | lst ds => obtain ⟨vs, e, _⟩ := h; exact ⟨_, e⟩
  | ins C fs => obtain ⟨dx, vs, e, _⟩ := h; exact ⟨_, e⟩
  | dct kvs => obtain ⟨vs, e, _⟩ := h; exact ⟨_, e⟩
  | dcT kvs => obtain ⟨vs, e, _⟩ := h; exact ⟨_, e⟩
  | iset p n => exact ⟨_, h⟩
  | tab P q => obtain ⟨rfl, ps, e, _⟩ := h; exact ⟨_, e⟩
theorem RS.ex (r : RS K m B H S) {a : Addr} (h : a ∈ m) : ∃ u, H a = some u := by
  obtain ⟨n, hn⟩ := List.mem_iff_getElem?.mp h
  have hl : n < S.length := by rw [← r.len]; exact (List.getElem?_eq_some_iff.mp hn).1
  exact (r.ob n a S[n] hn (by simp [hl])).ex
theorem RS.notin (r : RS K m B H S) {a : Addr} (h : H a = none) : a ∉ m := fun q => by
  obtain ⟨u, e⟩ := r.ex q
  rw [h] at e
  cases e
theorem RS.notB (r : RS K m B H S) {a : Addr} (h : H a = none) : a ∉ B := fun q => by
  obtain ⟨u, e, _⟩ := r.bn a q
  rw [h] at e
  cases e
theorem RO.mono {a : Addr} {o : O} (g : Tr m B H m' B' H') (he : H' a = H a) (h : RO K m B H a o) : RO K m' B' H' a o := by
  cases o with
  | lst ds => obtain ⟨vs, e, q⟩ := h; exact ⟨vs, he.trans e, RDs.mono g _ _ q⟩
  | ins C fs => obtain ⟨dx, vs, e, q⟩ := h; exact ⟨dx, vs, he.trans e, RFs.mono g _ _ q⟩
  | dct kvs => obtain ⟨vs, e, q⟩ := h; exact ⟨vs, he.trans e, RFs.mono g _ _ q⟩
  | dcT kvs => obtain ⟨vs, e, q⟩ := h; exact ⟨vs, he.trans e, RFs.mono g _ _ q⟩
  | iset p n => exact he.trans h
  | tab P q =>
    obtain ⟨rfl, ps, e, ok, k⟩ := h
    refine ⟨rfl, ps, he.trans e, ok, fun pos cv hc => ?_⟩
    obtain ⟨c, e1, e2, e3, e4⟩ := k pos cv hc
    exact ⟨c, e1, g.rd c _ e2 e3 e4 LamX.codeO_ne⟩
/-- the heap grew by things that are not put into the store -/
theorem RS.ext (r : RS K m B H S) (h : ∀ b o, H b = some o → H' b = some o) : Ge m H m H' ∧ RS K m B H' S := by
  have g : Ge m H m H' := ⟨⟨[], by simp⟩, fun b o hb e _ => ⟨hb, h b o e⟩⟩
  refine ⟨g, r.len, r.nd, r.dis, fun b hb => ?_, fun n a o h1 h2 => ?_, r.tb⟩
  · obtain ⟨u, e, nx⟩ := r.bn b hb
    exact ⟨u, h b u e, nx⟩
  · have q := r.ob n a o h1 h2
    obtain ⟨u, e⟩ := q.ex
    exact q.mono g.tr (by rw [e]; exact h _ _ e)
theorem new_ext {p : Addr} {u : HO} (hp : H p = none) : ∀ b o, H b = some o → upd H p u b = some o := fun b o e => by rw [upd_ne (ne_of_none e hp)]; exact e
/-- a new thing that is not put into the store -/
theorem RS.new (r : RS K m B H S) {p : Addr} {u : HO} (hp : H p = none) : Ge m H m (upd H p u) ∧ RS K m B (upd H p u) S := r.ext (new_ext hp)
/-- the same, forbidden so far -/
theorem Tr.ban {p : Addr} {u : HO} (hp : H p = none) : Tr m B H m (p :: B) (upd H p u) := ⟨fun _ _ h => h, fun a u h1 h2 h3 _ => ⟨h1, by simp only [List.mem_cons, not_or]; exact ⟨ne_of_none h3 hp, h2⟩, new_ext hp _ _ h3⟩⟩
theorem RS.ban (r : RS K m B H S) {p : Addr} {u : HO} (hp : H p = none) (nx : NX u := by exact ⟨fun ps e => (by cases e), fun f e => (by cases e)⟩) : RS K m (p :: B) (upd H p u) S := by
  refine ⟨r.len, r.nd, fun a ha => ?_, fun b hb => ?_, fun n a o h1 h2 => ?_, r.tb⟩
  · simp only [List.mem_cons, not_or]
    exact ⟨fun e => r.notin hp (by rw [← e]; exact ha), r.dis a ha⟩
  · rcases List.mem_cons.mp hb with rfl | hb
    · exact ⟨u, upd_same, nx⟩
    · obtain ⟨w, e, nw⟩ := r.bn b hb
      exact ⟨w, new_ext hp _ _ e, nw⟩
  · exact (r.ob n a o h1 h2).mono (Tr.ban hp) (upd_ne fun e => r.notin hp (by rw [← e]; exact RS.in h1))
/-- what is forbidden may change -/
theorem Tr.chg {p : Addr} {u : HO} (hp : p ∈ B) : Tr m B H m B (upd H p u) := ⟨fun _ _ h => h, fun a w h1 h2 h3 _ => ⟨h1, h2, by rw [upd_ne fun e => h2 (by rw [e]; exact hp)]; exact h3⟩⟩
theorem RS.chg (r : RS K m B H S) {p : Addr} {u : HO} (hp : p ∈ B) (nx : NX u := by exact ⟨fun ps e => (by cases e), fun f e => (by cases e)⟩) : RS K m B (upd H p u) S := by
  refine ⟨r.len, r.nd, r.dis, fun b hb => ?_, fun n a o h1 h2 => ?_, r.tb⟩
  · by_cases e : b = p
    · exact ⟨u, by rw [e]; exact upd_same, nx⟩
    · rw [upd_ne e]
      exact r.bn b hb
  · exact (r.ob n a o h1 h2).mono (Tr.chg hp) (upd_ne fun e => r.dis a (RS.in h1) (by rw [e]; exact hp))
/-- no longer forbidden: a value | in the store -/
theorem Tr.free {p : Addr} : Tr m (p :: B) H m B H := ⟨fun _ _ h => h, fun a u h1 h2 h3 _ => ⟨h1, fun q => h2 (List.mem_cons_of_mem _ q), h3⟩⟩
theorem RS.free (r : RS K m (p :: B) H S) : RS K m B H S :=
  ⟨r.len, r.nd, fun a ha q => r.dis a ha (List.mem_cons_of_mem _ q), fun b hb => r.bn b (List.mem_cons_of_mem _ hb), fun n a o h1 h2 => (r.ob n a o h1 h2).mono Tr.free rfl, r.tb⟩
theorem Tr.own {p : Addr} : Tr m (p :: B) H (m ++ [p]) B H := ⟨fun n a h => by
    rw [List.getElem?_append_left (List.getElem?_eq_some_iff.mp h).1]
    exact h, fun a u h1 h2 h3 _ => by
    simp only [List.mem_cons, not_or] at h2
    simp only [List.mem_append, List.mem_singleton, not_or]
    exact ⟨⟨h1, h2.1⟩, h2.2, h3⟩⟩
theorem RS.own (r : RS K m (p :: B) H S) {o : O} (hB : p ∉ B) (ho : RO K (m ++ [p]) B H p o) (hO : ∀ P q, o ≠ .tab P q := by exact fun P q e => (by cases e)) : RS K (m ++ [p]) B H (S ++ [o]) := by
  have hp : p ∉ m := fun h => r.dis p h (List.mem_cons_self ..)
  refine ⟨by simp [r.len], ?_, fun a ha => ?_, fun b hb => r.bn b (List.mem_cons_of_mem _ hb), fun n a o' h1 h2 => ?_, fun n P q h => ?_⟩
  · rw [List.nodup_append]
    refine ⟨r.nd, by simp, fun a ha b hb e => ?_⟩
    simp at hb
    subst hb e
    exact hp ha
  · rcases List.mem_append.mp ha with h | h
    · exact fun q => r.dis a h (List.mem_cons_of_mem _ q)
    · simp at h
      subst h
      exact hB
  · by_cases hn : n < m.length
    · rw [List.getElem?_append_left hn] at h1
      rw [List.getElem?_append_left (by rw [← r.len]; exact hn)] at h2
      exact (r.ob n a o' h1 h2).mono Tr.own rfl
    · have e : n = m.length := by
        have := (List.getElem?_eq_some_iff.mp h1).1
        simp at this
        omega
      subst e
      rw [List.getElem?_append_right (Nat.le_refl _)] at h1
      rw [List.getElem?_append_right (by rw [r.len]; exact Nat.le_refl _), r.len] at h2
      simp at h1 h2
      subst h1 h2
      exact ho
  · by_cases hn : n < S.length
    · rw [List.getElem?_append_left hn] at h
      exact r.tb n P q h
    · rw [List.getElem?_append_right (by omega)] at h
      exact absurd (List.mem_singleton.mp (List.mem_of_getElem? h)).symm (hO P q)
theorem Ge.own {p : Addr} (g : Ge m H m' H') (hp : Nw H p) : Ge m H (m' ++ [p]) H' := by
  obtain ⟨⟨l, e⟩, k⟩ := g
  exact ⟨⟨l ++ [p], by rw [e, List.append_assoc]⟩, fun b o hb q nt => ⟨by simp only [List.mem_append, List.mem_singleton, not_or]; exact ⟨(k b o hb q nt).1, fun e => hp o (by rw [← e]; exact q) nt⟩, (k b o hb q nt).2⟩⟩
/-- a thing of the store is changed -/
theorem RS.put (r : RS K m B H S) {n : Nat} {a : Addr} {u : HO} {o : O} (hn : m[n]? = some a) (ho : ∀ H', Ge m H m H' → H' a = some u → RO K m B H' a o) (hO : ∀ P q, o ≠ .tab P q := by exact fun P q e => (by cases e)) : Ge m H m (upd H a u) ∧ RS K m B (upd H a u) (S.set n o) := by
  have g : Ge m H m (upd H a u) := ⟨⟨[], by simp⟩, fun b o hb e _ => ⟨hb, by rw [upd_ne fun z => hb (by rw [z]; exact RS.in hn)]; exact e⟩⟩
  refine ⟨g, by simp [r.len], r.nd, r.dis, fun b hb => ?_, fun k b o' h1 h2 => ?_, fun k P q h => ?_⟩
  · rw [upd_ne fun e => r.dis a (RS.in hn) (by rw [← e]; exact hb)]
    exact r.bn b hb
  · by_cases hk : k = n
    · subst hk
      have hl : k < S.length := by rw [← r.len]; exact (List.getElem?_eq_some_iff.mp h1).1
      rw [List.getElem?_set_self hl] at h2
      rw [hn] at h1
      cases h1
      cases h2
      exact ho _ g upd_same
    · rw [List.getElem?_set_ne (Ne.symm hk)] at h2
      have hab : b ≠ a := fun e => by
        subst e
        obtain ⟨i1, e1⟩ := List.getElem?_eq_some_iff.mp h1
        obtain ⟨i2, e2⟩ := List.getElem?_eq_some_iff.mp hn
        exact hk ((List.getElem_inj r.nd).mp (e1.trans e2.symm))
      exact (r.ob k b o' h1 h2).mono g.tr (upd_ne hab)
  · by_cases hk : k = n
    · subst hk
      by_cases hl : k < S.length
      · rw [List.getElem?_set_self hl] at h
        exact absurd (Option.some.inj h) (hO P q)
      · rw [List.getElem?_eq_none (by simp; omega)] at h
        cases h
    · rw [List.getElem?_set_ne (Ne.symm hk)] at h
      exact r.tb k P q h
end
end Z
namespace Z
open PySem L2

/-! ### readings over plain data -/
/-- what is wanted behind r -/
def Post {α : Type} (K : PySem.W.Frag) (m B : List Addr) (H : Hp) (W : Value → Option Addr → Hp → Prop) (P : α → Sto → List Addr → Hp → Prop) : R α → Prop
  | .ok a S' => ∀ m' H', Ge m H m' H' → RS K m' B H' S' → P a S' m' H'
  | .exc c d S' => ∀ m' H' x v, Ge m H m' H' → RS K m' B H' S' → H' x = some (.xd [("at", v)]) → RD K m' B H' d v → W (.ref c) (some x) H'
  | .bad => False
theorem Post.ge {α : Type} {K : PySem.W.Frag} {m m' B : List Addr} {H H' : Hp} {W : Value → Option Addr → Hp → Prop} {P : α → Sto → List Addr → Hp → Prop} {r : R α} (h : Post K m B H W P r) (g : Ge m H m' H') : Post K m' B H' W P r := by
  cases r with
  | ok a S => exact fun m2 H2 g2 r2 => h m2 H2 (g.trans g2) r2
  | exc c d S => exact fun m2 H2 x v g2 r2 e2 d2 => h m2 H2 x v (g.trans g2) r2 e2 d2
  | bad => exact h
theorem Post.imp {α : Type} {K : PySem.W.Frag} {m B : List Addr} {H : Hp} {W : Value → Option Addr → Hp → Prop} {P P' : α → Sto → List Addr → Hp → Prop} {r : R α} (h : Post K m B H W P r)
    (i : ∀ a S m' H', Ge m H m' H' → RS K m' B H' S → P a S m' H' → P' a S m' H') : Post K m B H W P' r := by
  cases r with
  | ok a S => exact fun m2 H2 g2 r2 => i a S m2 H2 g2 r2 (h m2 H2 g2 r2)
  | exc c d S => exact h
  | bad => exact h
/-- one step behind another -/
theorem Post.bind {α β : Type} {K : PySem.W.Frag} {m B : List Addr} {H : Hp} {W : Value → Option Addr → Hp → Prop} {P : β → Sto → List Addr → Hp → Prop} {r : R α} {f : α → Sto → R β} (h : Post K m B H W P (r.bind f)) :
    Post K m B H W (fun a S m' H' => Post K m' B H' W P (f a S)) r := by
  cases r with
  | ok a S => exact fun m2 H2 g2 r2 => Post.ge (show Post K m B H W P (f a S) from h) g2
  | exc c d S => exact h
  | bad => exact h

/-- the reading of an expression that comes to den; W: what is wanted of an error -/
def tE (W : WX) (K : PySem.W.Frag) (den : DE) : TE := fun σ H Q => ∃ m B ρ S, RS K m B H S ∧ REs K m B H ρ σ ∧ Post K m B H (fun c x H' => W c x σ H') (fun d _ m' H' => ∀ v, RD K m' B H' d v → Q v H') (den ρ S)
def tAr (W : WX) (K : PySem.W.Frag) (den : DA) : TA := fun σ H Q => ∃ m B ρ S, RS K m B H S ∧ REs K m B H ρ σ ∧ Post K m B H (fun c x H' => W c x σ H') (fun ds _ m' H' => ∀ vs, RDs K m' B H' ds vs → Q vs H') (den ρ S)
def tTe (W : WX) (K : PySem.W.Frag) (den : DT) : TT := fun σ H Q => ∃ m B ρ S, RS K m B H S ∧ REs K m B H ρ σ ∧ Post K m B H (fun c x H' => W c x σ H') (fun b _ _ H' => Q b H') (den ρ S)
def ZE (X : Cx) (e : Expr) (den : DE) : Prop := ∀ W, Takes X W → PE X e (tE W X.K den)
def ZA (X : Cx) (es : List Expr) (den : DA) : Prop := ∀ W, Takes X W → PA X es (tAr W X.K den)
def ZT (X : Cx) (e : Expr) (den : DT) : Prop := ∀ W, Takes X W → PT X e (tTe W X.K den)
def ZW (X : Cx) (e : Expr) (den : DT) : Prop := ∀ W, Takes X W → PW X e (tTe W X.K den)
theorem pe_weak {X : Cx} {e : Expr} {t t' : TE} (h : PE X e t) (i : ∀ σ H Q, t' σ H Q → t σ H Q) : PE X e t' := ⟨fun pins s σ H Q I q => h.run pins s σ H Q I (i σ H Q q)⟩
theorem pt_weak {X : Cx} {e : Expr} {t t' : TT} (h : PT X e t) (i : ∀ σ H Q, t' σ H Q → t σ H Q) : PT X e t' := ⟨fun pins s σ H Q I q => h.run pins s σ H Q I (i σ H Q q)⟩
theorem pw_weak {X : Cx} {e : Expr} {t t' : TT} (h : PW X e t) (i : ∀ σ H Q, t' σ H Q → t σ H Q) : PW X e t' := ⟨fun wh pins s σ H Q I q => h.run wh pins s σ H Q I (i σ H Q q)⟩
theorem pa_weak {X : Cx} {e : List Expr} {t t' : TA} (h : PA X e t) (i : ∀ σ H Q, t' σ H Q → t σ H Q) : PA X e t' := ⟨fun p pins s σ H Q I q => h.run p pins s σ H Q I (i σ H Q q)⟩
theorem pss_weak {X : Cx} {e : List Stmt} {t t' : TS} (h : PSs X e t) (i : ∀ D σ H, t' D σ H → t D σ H) : PSs X e t' := ⟨fun pins s σ H D I q => h.run pins s σ H D I (i D σ H q)⟩
theorem ps_weak {X : Cx} {e : Stmt} {t t' : TS} (h : PS X e t) (i : ∀ D σ H, t' D σ H → t D σ H) : PS X e t' := ⟨fun pins s σ H D I q => h.run pins s σ H D I (i D σ H q)⟩
theorem pg_weak {X : Cx} {e : Expr} {t t' : TG} (h : PG X e t) (i : ∀ v σ H Q, t' v σ H Q → t v σ H Q) : PG X e t' := ⟨fun pins s σ H x u Q I r q => h.run pins s σ H x u Q I r (i _ _ _ _ q)⟩
theorem pi_weak {X : Cx} {tg e : Expr} {t t' : TI} (h : PI X tg e t) (i : ∀ σ H Q, t' σ H Q → t σ H Q) : PI X tg e t' := ⟨fun pins s σ H Q I q => h.run pins s σ H Q I (i σ H Q q)⟩
/-- taken apart: what a part's reading is to give -/
theorem tE.take {W : WX} {K : PySem.W.Frag} {da : DE} {f : D → Sto → R D} {σ : L2.St} {H : Hp} {Q Q' : VK} {m B : List Addr} {ρ : Env} {S : Sto} (r : RS K m B H S) (e : REs K m B H ρ σ)
    (h : Post K m B H (fun c x H' => W c x σ H') (fun d _ m' H' => ∀ v, RD K m' B H' d v → Q v H') ((da ρ S).bind f))
    (k : ∀ d S1 m1 H1 v, Ge m H m1 H1 → RS K m1 B H1 S1 → REs K m1 B H1 ρ σ → RD K m1 B H1 d v → Post K m1 B H1 (fun c x H' => W c x σ H') (fun d _ m' H' => ∀ v, RD K m' B H' d v → Q v H') (f d S1) → Q' v H1) : tE W K da σ H Q' :=
  ⟨m, B, ρ, S, r, e, (Post.bind h).imp fun d S1 m1 H1 g1 r1 p v rv => k d S1 m1 H1 v g1 r1 (e.mono g1.tr) rv p⟩
/-- the same, any end -/
theorem take_any {α β : Type} {W : Value → Option Addr → Hp → Prop} {K : PySem.W.Frag} {r : R α} {f : α → Sto → R β} {H : Hp} {m B : List Addr} {P : β → Sto → List Addr → Hp → Prop} {P' : α → Sto → List Addr → Hp → Prop}
    (h : Post K m B H W P (r.bind f)) (k : ∀ a S1 m1 H1, Ge m H m1 H1 → RS K m1 B H1 S1 → Post K m1 B H1 W P (f a S1) → P' a S1 m1 H1) : Post K m B H W P' r :=
  (Post.bind h).imp fun a S1 m1 H1 g1 r1 p => k a S1 m1 H1 g1 r1 p
/-- what is there at once -/
theorem Post.now {α : Type} {K : PySem.W.Frag} {m B : List Addr} {H : Hp} {W : Value → Option Addr → Hp → Prop} {P : α → Sto → List Addr → Hp → Prop} {a : α} {S : Sto} (h : Post K m B H W P (.ok a S)) (r : RS K m B H S) : P a S m H := h m H (.refl m H) r

/-! ### names and constants -/
def eV (i : Nat) : DE := fun ρ S => match ρ[i]? with
  | some (some d) => .ok d S
  | _ => .bad
def eC (d : D) : DE := fun _ S => .ok d S
section
variable {X : Cx} {pos : Pos}
theorem REs.getE {K : PySem.W.Frag} {m B : List Addr} {H : Hp} {ρ : Env} {σ : L2.St} (h : REs K m B H ρ σ) {i : Nat} {d : D} (e : ρ[i]? = some (some d)) : ∃ v, σ[i]? = some (some v) ∧ RD K m B H d v := h.get e
theorem ze_var (i : Nat) {x : Str} (hN : X.N[i]? = some x := by rfl) (hv : Vis X.env.scope x := by first | exact Or.inl rfl | exact Or.inr (Or.inl rfl) | exact Or.inr (Or.inr rfl)) (hd : (x == ("__debug__" : Str)) = false := by decide)
    (hcd : (x == ("__classdict__" : Str)) = false := by decide) : ZE X (.Name x pos) (eV i) := fun W tk => pe_weak (pe_var hN hv hd hcd) fun σ H Q ⟨m, B, ρ, S, r, e, h⟩ => by
  unfold eV at h
  split at h
  · rename_i d hd'
    obtain ⟨v, e1, rv⟩ := e.getE hd'
    exact ⟨v, e1, h.now r v rv⟩
  · exact h.elim
theorem RDi {K : PySem.W.Frag} {m B : List Addr} {H : Hp} (i : Int) : RD K m B H (.int i) (.int i) := by unfold RD; rfl
theorem RDb {K : PySem.W.Frag} {m B : List Addr} {H : Hp} (i : Bool) : RD K m B H (.bl i) (.bl i) := by unfold RD; rfl
theorem RDn {K : PySem.W.Frag} {m B : List Addr} {H : Hp} : RD K m B H .non .non := by unfold RD; rfl
theorem RDst {K : PySem.W.Frag} {m B : List Addr} {H : Hp} (i : Str) : RD K m B H (.str i) (.str i) := by unfold RD; rfl
theorem RDt {K : PySem.W.Frag} {m B : List Addr} {H : Hp} (i : String) : RD K m B H (.ty i) (.ty i) := by unfold RD; rfl
theorem RDa {K : PySem.W.Frag} {m B : List Addr} {H : Hp} (a : Addr) : RD K m B H (.adr a) (.ref a) := by unfold RD; rfl
theorem ze_c {e : Expr} {d : D} {v : V} (h : PE X e (tC v)) (r : ∀ m B H, RD X.K m B H d v) : ZE X e (eC d) := fun W tk => pe_weak h fun σ H Q ⟨m, B, ρ, S, rs, e, h⟩ => h.now rs v (r m B H)
theorem ze_int {i : Int} {j : Nat} : ZE X (.Constant (.int i) j pos) (eC (.int i)) := ze_c pe_int fun _ _ _ => RDi i
theorem ze_bl {b : Bool} {j : Nat} : ZE X (.Constant (.bool b) j pos) (eC (.bl b)) := ze_c pe_bl fun _ _ _ => RDb b
theorem ze_non {j : Nat} : ZE X (.Constant .none j pos) (eC .non) := ze_c pe_non fun _ _ _ => RDn
theorem ze_str {x : Str} {j : Nat} : ZE X (.Constant (.str x) j pos) (eC (.str x)) := ze_c pe_str fun _ _ _ => RDst x
theorem ze_glob {x : Str} {u : Value} {v : V} {d : D} (hm : X.mg x = some u) (r : RelV v u) (r2 : ∀ m B H, RD X.K m B H d v) (hg : Gl X x := by rfl) (hd : (x == ("__debug__" : Str)) = false := by decide) : ZE X (.Name x pos) (eC d) := ze_c (pe_glob hg hm r hd) r2
end

/-! ### one part, two parts -/
def e1 (f : D → Sto → R D) (a : DE) : DE := fun ρ S => (a ρ S).bind f
def e2 (f : D → D → Sto → R D) (a b : DE) : DE := fun ρ S => (a ρ S).bind fun x S1 => (b ρ S1).bind fun y S2 => f x y S2
def OkOp (K : PySem.W.Frag) (r : R2) (f : D → D → Sto → R D) : Prop := ∀ m B H S d e x y (W : Value → Option Addr → Hp → Prop) (Q : VK), RS K m B H S → RD K m B H d x → RD K m B H e y → Post K m B H W (fun d _ m' H' => ∀ v, RD K m' B H' d v → Q v H') (f d e S) → r x y H Q
def OkUn (K : PySem.W.Frag) (r : V → Hp → VK → Prop) (f : D → Sto → R D) : Prop := ∀ m B H S d x (W : Value → Option Addr → Hp → Prop) (Q : VK), RS K m B H S → RD K m B H d x → Post K m B H W (fun d _ m' H' => ∀ v, RD K m' B H' d v → Q v H') (f d S) → r x H Q
section
variable {X : Cx} {pos : Pos} {a b : Expr} {da db : DE}
theorem te_op {K : PySem.W.Frag} {W : WX} {r : R2} {f : D → D → Sto → R D} (h : OkOp K r f) (σ : L2.St) (H : Hp) (Q : VK) : tE W K (e2 f da db) σ H Q → tOp r (tE W K da) (tE W K db) σ H Q := fun ⟨m, B, ρ, S, rs, e, p⟩ =>
  tE.take (f := fun x S1 => (db ρ S1).bind fun y S2 => f x y S2) rs e p fun d S1 m1 H1 v g1 r1 e1 rd p1 => tE.take (f := fun y S2 => f d y S2) r1 e1 p1 fun d' S2 m2 H2 v' g2 r2 e2 rd' p2 => h m2 B H2 S2 d d' v v' _ Q r2 (rd.mono g2.tr) rd' p2
theorem te_un {K : PySem.W.Frag} {W : WX} {r : V → Hp → VK → Prop} {f : D → Sto → R D} (h : OkUn K r f) (σ : L2.St) (H : Hp) (Q : VK) : tE W K (e1 f da) σ H Q → tUn r (tE W K da) σ H Q := fun ⟨m, B, ρ, S, rs, e, p⟩ =>
  tE.take (f := f) rs e p fun d S1 m1 H1 v g1 r1 e1 rd p1 => h m1 B H1 S1 d v _ Q r1 rd p1
theorem ze_op {op : Operator} {r : R2} {f : D → D → Sto → R D} (ho : OpR X (binaryOp op) r) (h : OkOp X.K r f) (ha : ZE X a da) (hb : ZE X b db) : ZE X (.BinOp a op b pos) (e2 f da db) := fun W tk => pe_weak (pe_op ho (ha W tk) (hb W tk)) (te_op h)
theorem ze_cmp {op : CmpOp} {r : R2} {f : D → D → Sto → R D} (ho : OpR X (compareOp op) r) (h : OkOp X.K r f) (ha : ZE X a da) (hb : ZE X b db) (hm : behindInMarks op b = false) : ZE X (.Compare a [op] [b] pos) (e2 f da db) := fun W tk =>
  pe_weak (pe_cmpR ho (ha W tk) (hb W tk) hm) (te_op h)
theorem ze_un {op : UnaryOp} {r : V → Hp → VK → Prop} {f : D → Sto → R D} (ho : UnR X (unaryOp op) r) (h : OkUn X.K r f) (ha : ZE X a da) : ZE X (.UnaryOp op a pos) (e1 f da) := fun W tk => pe_weak (pe_un ho (ha W tk)) (te_un h)
theorem ze_ix {r : R2} {f : D → D → Sto → R D} (ho : IxR X r) (h : OkOp X.K r f) (ha : ZE X a da) (hb : ZE X b db) (hs : PlainIx b := by exact fun _ _ => rfl) : ZE X (.Subscript a b pos) (e2 f da db) := fun W tk => pe_weak (pe_ix ho (ha W tk) (hb W tk) hs) (te_op h)
end
/-! ints -/
def fI (g : Int → Int → D) (c : Int → Int → Bool) : D → D → Sto → R D
  | .int i, .int j, S => if c i j = true then .ok (g i j) S else .bad
  | _, _, _ => .bad
theorem okI {K : PySem.W.Frag} {C : Int → Int → Prop} {g : Int → Int → V} {gd : Int → Int → D} {c : Int → Int → Bool} (hc : ∀ i j, c i j = true → C i j) (hg : ∀ m B H i j, RD K m B H (gd i j) (g i j)) : OkOp K (rI C g) (fI gd c) := by
  intro m B H S d e x y W Q rs rd re p
  cases d <;> try exact p.elim
  rename_i i
  cases e <;> try exact p.elim
  rename_i j
  unfold RD at rd re
  subst rd re
  have p : Post K m B H W _ (if c i j = true then .ok (gd i j) S else .bad) := p
  by_cases h : c i j = true
  · rw [if_pos h] at p
    exact ⟨i, j, rfl, rfl, hc i j h, p.now rs _ (hg m B H i j)⟩
  · rw [if_neg h] at p
    exact p.elim
def fI0 (g : Int → Int → D) : D → D → Sto → R D
  | .int i, .int j, S => .ok (g i j) S
  | _, _, _ => .bad
theorem okI0 {K : PySem.W.Frag} {g : Int → Int → V} {gd : Int → Int → D} (hg : ∀ m B H i j, RD K m B H (gd i j) (g i j)) : OkOp K (rI0 g) (fI0 gd) := by
  intro m B H S d e x y W Q rs rd re p
  cases d <;> try exact p.elim
  rename_i i
  cases e <;> try exact p.elim
  rename_i j
  unfold RD at rd re
  subst rd re
  exact ⟨i, j, rfl, rfl, p.now rs _ (hg m B H i j)⟩
section
variable {X : Cx} {pos : Pos} {a b : Expr} {da db : DE}
def fAdd := fI0 fun i j => .int (i + j)
def fSub := fI0 fun i j => .int (i - j)
def fLt := fI0 fun i j => .bl (decide (i < j))
def fLe := fI0 fun i j => .bl (decide (i ≤ j))
def fGt := fI0 fun i j => .bl (decide (j < i))
def fGe := fI0 fun i j => .bl (decide (j ≤ i))
/-- the remainder by what is above nought -/
def fMod := fI (fun i j => .int (i % j)) fun _ j => decide (0 < j)
theorem ze_add (ha : ZE X a da) (hb : ZE X b db) : ZE X (.BinOp a .Add b pos) (e2 fAdd da db) := ze_op op_add (okI0 fun _ _ _ _ _ => RDi _) ha hb
theorem ze_sub (ha : ZE X a da) (hb : ZE X b db) : ZE X (.BinOp a .Sub b pos) (e2 fSub da db) := ze_op op_sub (okI0 fun _ _ _ _ _ => RDi _) ha hb
theorem ze_mod (ha : ZE X a da) (hb : ZE X b db) : ZE X (.BinOp a .Mod b pos) (e2 fMod da db) := ze_op op_mod (okI (fun _ _ h => of_decide_eq_true h) fun _ _ _ _ _ => RDi _) ha hb
theorem ze_lt (ha : ZE X a da) (hb : ZE X b db) : ZE X (.Compare a [.Lt] [b] pos) (e2 fLt da db) := ze_cmp op_lt (okI0 fun _ _ _ _ _ => RDb _) ha hb (nomark _)
theorem ze_le (ha : ZE X a da) (hb : ZE X b db) : ZE X (.Compare a [.LtE] [b] pos) (e2 fLe da db) := ze_cmp op_le (okI0 fun _ _ _ _ _ => RDb _) ha hb (nomark _)
theorem ze_gt (ha : ZE X a da) (hb : ZE X b db) : ZE X (.Compare a [.Gt] [b] pos) (e2 fGt da db) := ze_cmp op_gt (okI0 fun _ _ _ _ _ => RDb _) ha hb (nomark _)
theorem ze_ge (ha : ZE X a da) (hb : ZE X b db) : ZE X (.Compare a [.GtE] [b] pos) (e2 fGe da db) := ze_cmp op_ge (okI0 fun _ _ _ _ _ => RDb _) ha hb (nomark _)
end
end Z
namespace Z
open PySem L2

/-! ### plain data for == -/
mutual
def toP (S : Sto) : D → Option PyData
  | .non => some .none
  | .bl b => some (.bool b)
  | .int i => some (.int i)
  | .str s => some (.str s)
  | .tup ds => (toPs S ds).map .tuple
  | .lst ds => (toPs S ds).map .list
  | .scr ds => (toPs S ds).map .list
  | .ref n => match S[n]? with
    | some (.lst ds) => (flatPs ds).map .list
    | _ => none
  | _ => none
def toPs (S : Sto) : List D → Option (List PyData)
  | [] => some []
  | d :: ds => (toP S d).bind fun p => (toPs S ds).map fun ps => p :: ps
/-- one level of a list of the store: what is in it holds nothing of the store -/
def flatP : D → Option PyData
  | .non => some .none
  | .bl b => some (.bool b)
  | .int i => some (.int i)
  | .str s => some (.str s)
  | .tup ds => (flatPs ds).map .tuple
  | .lst ds => (flatPs ds).map .list
  | .scr ds => (flatPs ds).map .list
  | _ => none
def flatPs : List D → Option (List PyData)
  | [] => some []
  | d :: ds => (flatP d).bind fun p => (flatPs ds).map fun ps => p :: ps
end
section
variable {K : PySem.W.Frag} {m B : List Addr} {H : Hp} {S : Sto}
mutual
theorem flatP_ok : ∀ {d : D} {v : V} {p : PyData}, RD K m B H d v → flatP d = some p → Dp K H v p
  | .non, _, _, h, e => by unfold RD at h; simp only [flatP] at e; cases e; subst h; exact .non
  | .bl b, _, _, h, e => by unfold RD at h; simp only [flatP] at e; cases e; subst h; exact .bl b
  | .int b, _, _, h, e => by unfold RD at h; simp only [flatP] at e; cases e; subst h; exact .int b
  | .str b, _, _, h, e => by unfold RD at h; simp only [flatP] at e; cases e; subst h; exact .str b
  | .tup ds, _, _, h, e => by
    unfold RD at h
    obtain ⟨a, vs, rfl, f, r⟩ := h
    simp only [flatP, Option.map_eq_some_iff] at e
    obtain ⟨ps, e1, rfl⟩ := e
    exact .tup f.sq (flatPs_ok r e1)
  | .lst ds, _, _, h, e => by
    unfold RD at h
    obtain ⟨a, vs, rfl, f, r⟩ := h
    simp only [flatP, Option.map_eq_some_iff] at e
    obtain ⟨ps, e1, rfl⟩ := e
    exact .lst f.sq (flatPs_ok r e1)
  | .scr ds, _, _, h, e => by
    unfold RD at h
    obtain ⟨a, vs, rfl, f, r⟩ := h
    simp only [flatP, Option.map_eq_some_iff] at e
    obtain ⟨ps, e1, rfl⟩ := e
    exact .lst f.sq (flatPs_ok r e1)
  | .ref n, _, _, h, e => by simp only [flatP] at e; cases e
  | .adr n, _, _, h, e => by simp only [flatP] at e; cases e
  | .ty n, _, _, h, e => by simp only [flatP] at e; cases e
theorem flatPs_ok : ∀ {ds : List D} {vs : List V} {ps : List PyData}, RDs K m B H ds vs → flatPs ds = some ps → DpAll K H vs ps
  | [], _, _, h, e => by unfold RDs at h; simp only [flatPs] at e; cases e; subst h; exact .nil
  | d :: ds, _, _, h, e => by
    unfold RDs at h
    obtain ⟨x, r, rfl, h1, h2⟩ := h
    simp only [flatPs, Option.bind_eq_some_iff, Option.map_eq_some_iff] at e
    obtain ⟨p, e1, ps, e2, rfl⟩ := e
    exact .cons (flatP_ok h1 e1) (flatPs_ok h2 e2)
end
mutual
theorem toP_ok (rs : RS K m B H S) : ∀ {d : D} {v : V} {p : PyData}, RD K m B H d v → toP S d = some p → Dp K H v p
  | .non, _, _, h, e => by unfold RD at h; simp only [toP] at e; cases e; subst h; exact .non
  | .bl b, _, _, h, e => by unfold RD at h; simp only [toP] at e; cases e; subst h; exact .bl b
  | .int b, _, _, h, e => by unfold RD at h; simp only [toP] at e; cases e; subst h; exact .int b
  | .str b, _, _, h, e => by unfold RD at h; simp only [toP] at e; cases e; subst h; exact .str b
  | .tup ds, _, _, h, e => by
    unfold RD at h
    obtain ⟨a, vs, rfl, f, r⟩ := h
    simp only [toP, Option.map_eq_some_iff] at e
    obtain ⟨ps, e1, rfl⟩ := e
    exact .tup f.sq (toPs_ok rs r e1)
  | .lst ds, _, _, h, e => by
    unfold RD at h
    obtain ⟨a, vs, rfl, f, r⟩ := h
    simp only [toP, Option.map_eq_some_iff] at e
    obtain ⟨ps, e1, rfl⟩ := e
    exact .lst f.sq (toPs_ok rs r e1)
  | .scr ds, _, _, h, e => by
    unfold RD at h
    obtain ⟨a, vs, rfl, f, r⟩ := h
    simp only [toP, Option.map_eq_some_iff] at e
    obtain ⟨ps, e1, rfl⟩ := e
    exact .lst f.sq (toPs_ok rs r e1)
  | .ref n, _, _, h, e => by
    unfold RD at h
    obtain ⟨a, rfl, q⟩ := h
    simp only [toP] at e
    split at e
    · rename_i ds hn
      simp only [Option.map_eq_some_iff] at e
      obtain ⟨ps, e1, rfl⟩ := e
      obtain ⟨vs, ea, rv⟩ := rs.ob n a _ q hn
      exact .lst (SqL.of ea) (flatPs_ok rv e1)
    · cases e
  | .adr n, _, _, h, e => by simp only [toP] at e; cases e
  | .ty n, _, _, h, e => by simp only [toP] at e; cases e
theorem toPs_ok (rs : RS K m B H S) : ∀ {ds : List D} {vs : List V} {ps : List PyData}, RDs K m B H ds vs → toPs S ds = some ps → DpAll K H vs ps
  | [], _, _, h, e => by unfold RDs at h; simp only [toPs] at e; cases e; subst h; exact .nil
  | d :: ds, _, _, h, e => by
    unfold RDs at h
    obtain ⟨x, r, rfl, h1, h2⟩ := h
    simp only [toPs, Option.bind_eq_some_iff, Option.map_eq_some_iff] at e
    obtain ⟨p, e1, ps, e2, rfl⟩ := e
    exact .cons (toP_ok rs h1 e1) (toPs_ok rs h2 e2)
end
end
def eqD (S : Sto) (d e : D) : Option Bool := match toP S d, toP S e with
  | some p, some q => if SeqAt.shaped p = true ∧ SeqAt.shaped q = true then some (PyData.eqv p q) else none
  | _, _ => none
def rB (o : Option Bool) (S : Sto) : R D := match o with
  | some b => .ok (.bl b) S
  | none => .bad
def fEq (d e : D) (S : Sto) : R D := rB (eqD S d e) S
def fNe (d e : D) (S : Sto) : R D := rB ((eqD S d e).map (!·)) S
theorem eqD_ok {K : PySem.W.Frag} {m B : List Addr} {H : Hp} {S : Sto} {d e : D} {x y : V} {b : Bool} (rs : RS K m B H S) (rd : RD K m B H d x) (re : RD K m B H e y) (h : eqD S d e = some b) :
    ∃ p q, Dp K H x p ∧ Dp K H y q ∧ SeqAt.shaped p = true ∧ SeqAt.shaped q = true ∧ b = PyData.eqv p q := by
  unfold eqD at h
  split at h
  · rename_i p q hp hq
    split at h
    · rename_i hs
      exact ⟨p, q, toP_ok rs rd hp, toP_ok rs re hq, hs.1, hs.2, (Option.some.inj h).symm⟩
    · cases h
  · cases h
theorem okEq {K : PySem.W.Frag} : OkOp K (rEqD K) fEq := by
  intro m B H S d e x y W Q rs rd re p
  unfold fEq rB at p
  split at p
  · rename_i b hb
    obtain ⟨p1, q1, h1, h2, h3, h4, rfl⟩ := eqD_ok rs rd re hb
    exact ⟨p1, q1, h1, h2, h3, h4, p.now rs _ (RDb _)⟩
  · exact p.elim
theorem okNe {K : PySem.W.Frag} : OkOp K (rNeD K) fNe := by
  intro m B H S d e x y W Q rs rd re p
  unfold fNe rB at p
  split at p
  · rename_i b hb
    simp only [Option.map_eq_some_iff] at hb
    obtain ⟨b', hb', rfl⟩ := hb
    obtain ⟨p1, q1, h1, h2, h3, h4, rfl⟩ := eqD_ok rs rd re hb'
    exact ⟨p1, q1, h1, h2, h3, h4, p.now rs _ (RDb _)⟩
  · exact p.elim
/-- x in a list (or what is written as one) -/
def fIn (d e : D) (S : Sto) : R D := match toP S d, toP S e with
  | some p, some (.list qs) => if SeqAt.shaped p = true ∧ SeqAt.shaped (.list qs) = true then .ok (.bl (qs.any fun z => PyData.eqv z p)) S else .bad
  | _, _ => .bad
def fNotIn (d e : D) (S : Sto) : R D := match toP S d, toP S e with
  | some p, some (.list qs) => if SeqAt.shaped p = true ∧ SeqAt.shaped (.list qs) = true then .ok (.bl (!qs.any fun z => PyData.eqv z p)) S else .bad
  | _, _ => .bad
theorem okIn {K : PySem.W.Frag} : OkOp K (rInD K) fIn := by
  intro m B H S d e x y W Q rs rd re p
  unfold fIn at p
  split at p
  · rename_i p1 qs h1 h2
    split at p
    · rename_i hs
      exact ⟨p1, qs, toP_ok rs rd h1, toP_ok rs re h2, hs.1, hs.2, p.now rs _ (RDb _)⟩
    · exact p.elim
  · exact p.elim
theorem okNotIn {K : PySem.W.Frag} : OkOp K (rNotInD K) fNotIn := by
  intro m B H S d e x y W Q rs rd re p
  unfold fNotIn at p
  split at p
  · rename_i p1 qs h1 h2
    split at p
    · rename_i hs
      exact ⟨p1, qs, toP_ok rs rd h1, toP_ok rs re h2, hs.1, hs.2, p.now rs _ (RDb _)⟩
    · exact p.elim
  · exact p.elim
def fIsN (d : D) (S : Sto) : R D := match d with
  | .non => .ok (.bl true) S
  | _ => .ok (.bl false) S
def fNotN (d : D) (S : Sto) : R D := match d with
  | .non => .ok (.bl false) S
  | _ => .ok (.bl true) S
theorem RD.isN {K : PySem.W.Frag} {m B : List Addr} {H : Hp} : ∀ {d : D} {v : V}, RD K m B H d v → decide (v = .non) = (match d with | .non => true | _ => false)
  | .non, _, h => by unfold RD at h; subst h; rfl
  | .bl _, _, h => by unfold RD at h; subst h; rfl
  | .int _, _, h => by unfold RD at h; subst h; rfl
  | .str _, _, h => by unfold RD at h; subst h; rfl
  | .ty _, _, h => by unfold RD at h; subst h; rfl
  | .adr _, _, h => by unfold RD at h; subst h; rfl
  | .tup _, _, h => by unfold RD at h; obtain ⟨a, vs, rfl, _⟩ := h; rfl
  | .lst _, _, h => by unfold RD at h; obtain ⟨a, vs, rfl, _⟩ := h; rfl
  | .scr _, _, h => by unfold RD at h; obtain ⟨a, vs, rfl, _⟩ := h; rfl
  | .ref _, _, h => by unfold RD at h; obtain ⟨a, rfl, _⟩ := h; rfl
/-- is of two truth values -/
def fIsB : D → D → Sto → R D
  | .bl a, .bl b, S => .ok (.bl (decide (a = b))) S
  | _, _, _ => .bad
theorem okIsB {K : PySem.W.Frag} : OkOp K rIsB fIsB := by
  intro m B H S d e x y W Q rs rd re p
  cases d <;> try exact p.elim
  rename_i i
  cases e <;> try exact p.elim
  rename_i j
  unfold RD at rd re
  subst rd re
  exact ⟨i, j, rfl, rfl, p.now rs _ (RDb _)⟩
section
variable {X : Cx} {pos : Pos} {a b : Expr} {da db : DE}
theorem ze_eq (hu : X.A.units + 64 < cLine) (ha : ZE X a da) (hb : ZE X b db) : ZE X (.Compare a [.Eq] [b] pos) (e2 fEq da db) := ze_cmp (op_eqD hu) okEq ha hb (nomark _)
theorem ze_ne (hu : X.A.units + 64 < cLine) (ha : ZE X a da) (hb : ZE X b db) : ZE X (.Compare a [.NotEq] [b] pos) (e2 fNe da db) := ze_cmp (op_neD hu) okNe ha hb (nomark _)
theorem ze_in (hu : X.A.units + 65 < cLine) (ha : ZE X a da) (hb : ZE X b db) (hm : behindInMarks .In b = false := by rfl) : ZE X (.Compare a [.In] [b] pos) (e2 fIn da db) := ze_cmp (op_inD hu) okIn ha hb hm
theorem ze_notin (hu : X.A.units + 65 < cLine) (ha : ZE X a da) (hb : ZE X b db) (hm : behindInMarks .NotIn b = false := by rfl) : ZE X (.Compare a [.NotIn] [b] pos) (e2 fNotIn da db) := ze_cmp (op_notInD hu) okNotIn ha hb hm
theorem ze_isN {j : Nat} {p2 : Pos} (ha : ZE X a da) : ZE X (.Compare a [.Is] [.Constant .none j p2] pos) (e1 fIsN da) := fun W tk => pe_weak (pe_cmp (pc_isN (ha W tk)) rfl) fun σ H Q ⟨m, B, ρ, S, rs, e, p⟩ =>
  tE.take (f := fIsN) rs e p fun d S1 m1 H1 v g1 r1 e1 rd p1 => by
    rw [rd.isN]
    cases d <;> exact p1.now r1 _ (RDb _)
theorem ze_notN {j : Nat} {p2 : Pos} (ha : ZE X a da) : ZE X (.Compare a [.IsNot] [.Constant .none j p2] pos) (e1 fNotN da) := fun W tk => pe_weak (pe_cmp (pc_notN (ha W tk)) rfl) fun σ H Q ⟨m, B, ρ, S, rs, e, p⟩ =>
  tE.take (f := fNotN) rs e p fun d S1 m1 H1 v g1 r1 e1 rd p1 => by
    rw [rd.isN]
    cases d <;> exact p1.now r1 _ (RDb _)
theorem ze_isB (ha : ZE X a da) (hb : ZE X b db) : ZE X (.Compare a [.Is] [b] pos) (e2 fIsB da db) := ze_cmp op_isBl okIsB ha hb (nomark _)
end

/-! ### truth -/
def tru (S : Sto) : D → Option Bool
  | .non => some false
  | .bl b => some b
  | .int i => some (i != 0)
  | .str s => if s.length ≤ 16777216 then some (s.length != 0) else none
  | .tup ds => some (!ds.isEmpty)
  | .lst ds => some (!ds.isEmpty)
  | .scr ds => some (!ds.isEmpty)
  | .ref n => match S[n]? with
    | some (.lst ds) => some (!ds.isEmpty)
    | _ => none
  | _ => none
theorem RDs.emp {K : PySem.W.Frag} {m B : List Addr} {H : Hp} {ds : List D} {vs : List V} (h : RDs K m B H ds vs) : ds.isEmpty = vs.isEmpty := by
  cases ds with
  | nil => unfold RDs at h; subst h; rfl
  | cons d ds => unfold RDs at h; obtain ⟨x, r, rfl, _⟩ := h; rfl
theorem tru_is {K : PySem.W.Frag} {m B : List Addr} {H : Hp} {S : Sto} (rs : RS K m B H S) : ∀ {d : D} {v : V} {b : Bool}, RD K m B H d v → tru S d = some b → TruV K v H b
  | .non, _, _, h, e => by unfold RD at h; subst h; simp only [tru] at e; cases e; rfl
  | .bl _, _, _, h, e => by unfold RD at h; subst h; simp only [tru] at e; cases e; rfl
  | .int _, _, _, h, e => by unfold RD at h; subst h; simp only [tru] at e; cases e; rfl
  | .str s, _, _, h, e => by
    unfold RD at h
    subst h
    simp only [tru] at e
    split at e
    · rename_i hz
      cases e
      refine ⟨by rw [sizeLine_eq]; exact hz, ?_⟩
      cases hl : s.length with
      | zero => rfl
      | succ n =>
        have h1 : ((n + 1 : Nat) != 0) = true := by simp
        have h2 : (((n + 1 : Nat) : Int) != 0) = true := by
          rw [bne_iff_ne]
          omega
        rw [h1, h2]
    · cases e
  | .tup ds, _, _, h, e => by unfold RD at h; obtain ⟨a, vs, rfl, f, r⟩ := h; simp only [tru] at e; cases e; exact .inr (.inl ⟨vs, f.sq, by rw [r.emp]⟩)
  | .lst ds, _, _, h, e => by unfold RD at h; obtain ⟨a, vs, rfl, f, r⟩ := h; simp only [tru] at e; cases e; exact .inl ⟨vs, f.sq, by rw [r.emp]⟩
  | .scr ds, _, _, h, e => by unfold RD at h; obtain ⟨a, vs, rfl, f, r⟩ := h; simp only [tru] at e; cases e; exact .inl ⟨vs, f.sq, by rw [r.emp]⟩
  | .ref n, _, _, h, e => by
    unfold RD at h
    obtain ⟨a, rfl, q⟩ := h
    simp only [tru] at e
    split at e
    · rename_i ds hn
      cases e
      obtain ⟨vs, ea, rv⟩ := rs.ob n a _ q hn
      exact .inl ⟨vs, SqL.of ea, by rw [rv.emp]⟩
    · cases e
  | .adr _, _, _, _, e => by simp only [tru] at e; cases e
  | .ty _, _, _, _, e => by simp only [tru] at e; cases e
/-- the test by the value -/
def tV (a : DE) : DT := fun ρ S => (a ρ S).bind fun d S1 => match tru S1 d with
  | some b => .ok b S1
  | none => .bad
def tNot (t : DT) : DT := fun ρ S => (t ρ S).bind fun b S1 => .ok (!b) S1
def tAnd (t u : DT) : DT := fun ρ S => (t ρ S).bind fun b S1 => if b = true then u ρ S1 else .ok false S1
def tOr (t u : DT) : DT := fun ρ S => (t ρ S).bind fun b S1 => if b = true then .ok true S1 else u ρ S1
def eAnd (a b : DE) : DE := fun ρ S => (a ρ S).bind fun d S1 => match tru S1 d with
  | some k => if k = true then b ρ S1 else .ok d S1
  | none => .bad
def eOr (a b : DE) : DE := fun ρ S => (a ρ S).bind fun d S1 => match tru S1 d with
  | some k => if k = true then .ok d S1 else b ρ S1
  | none => .bad
def eNot (a : DE) : DE := fun ρ S => (a ρ S).bind fun d S1 => match tru S1 d with
  | some k => .ok (.bl (!k)) S1
  | none => .bad
def eIf (t : DT) (a b : DE) : DE := fun ρ S => (t ρ S).bind fun k S1 => if k = true then a ρ S1 else b ρ S1
section
variable {X : Cx} {pos : Pos} {a b c : Expr} {rest : List Expr} {da db : DE} {ta tb : DT}
theorem tTe.take {β : Type} {W : WX} {K : PySem.W.Frag} {dt : DT} {f : Bool → Sto → R β} {σ : L2.St} {H : Hp} {Q' : Bool → Hp → Prop} {m B : List Addr} {ρ : Env} {S : Sto} {P : β → Sto → List Addr → Hp → Prop} (r : RS K m B H S) (e : REs K m B H ρ σ)
    (h : Post K m B H (fun c x H' => W c x σ H') P ((dt ρ S).bind f))
    (k : ∀ b S1 m1 H1, Ge m H m1 H1 → RS K m1 B H1 S1 → REs K m1 B H1 ρ σ → Post K m1 B H1 (fun c x H' => W c x σ H') P (f b S1) → Q' b H1) : tTe W K dt σ H Q' :=
  ⟨m, B, ρ, S, r, e, (Post.bind h).imp fun d S1 m1 H1 g1 r1 p => k d S1 m1 H1 g1 r1 (e.mono g1.tr) p⟩
theorem tE.takeA {β : Type} {W : WX} {K : PySem.W.Frag} {da : DE} {f : D → Sto → R β} {σ : L2.St} {H : Hp} {Q' : VK} {m B : List Addr} {ρ : Env} {S : Sto} {P : β → Sto → List Addr → Hp → Prop} (r : RS K m B H S) (e : REs K m B H ρ σ)
    (h : Post K m B H (fun c x H' => W c x σ H') P ((da ρ S).bind f))
    (k : ∀ d S1 m1 H1 v, Ge m H m1 H1 → RS K m1 B H1 S1 → REs K m1 B H1 ρ σ → RD K m1 B H1 d v → Post K m1 B H1 (fun c x H' => W c x σ H') P (f d S1) → Q' v H1) : tE W K da σ H Q' :=
  ⟨m, B, ρ, S, r, e, (Post.bind h).imp fun d S1 m1 H1 g1 r1 p v rv => k d S1 m1 H1 v g1 r1 (e.mono g1.tr) rv p⟩
theorem zt_val (ha : ZE X a da) (he : ∀ whole, isTrue a X.env whole = (do let v ← whole; standAt a.pos; holding [v] (truthy v)) := by intro _; rfl) : ZT X a (tV da) := fun W tk => pt_weak (pt_truth (ha W tk) he) fun σ H Q ⟨m, B, ρ, S, rs, e, p⟩ =>
  tE.takeA rs e p fun d S1 m1 H1 v g1 r1 e1 rd p1 => by
    cases h : tru S1 d with
    | none => simp only [h] at p1; exact p1.elim
    | some b => simp only [h] at p1; exact ⟨b, tru_is r1 rd h, p1.now r1⟩
theorem zt_not (ha : ZT X a ta) : ZT X (.UnaryOp .Not a pos) (tNot ta) := fun W tk => pt_weak (pt_not (ha W tk)) fun σ H Q ⟨m, B, ρ, S, rs, e, p⟩ => tTe.take rs e p fun b S1 m1 H1 g1 r1 e1 p1 => p1.now r1
theorem zw_and1 (ha : ZT X a ta) : ZW X (.BoolOp .And [a] pos) ta := fun W tk => pw_and1 (ha W tk)
theorem zw_or1 (ha : ZT X a ta) : ZW X (.BoolOp .Or [a] pos) ta := fun W tk => pw_or1 (ha W tk)
theorem zw_and (ha : ZT X a ta) (hb : ZW X (.BoolOp .And (b :: rest) pos) tb) : ZW X (.BoolOp .And (a :: b :: rest) pos) (tAnd ta tb) := fun W tk => pw_weak (pw_and (ha W tk) (hb W tk)) fun σ H Q ⟨m, B, ρ, S, rs, e, p⟩ => tTe.take rs e p fun b S1 m1 H1 g1 r1 e1 p1 => by
  cases b with
  | true => exact ⟨m1, B, ρ, S1, r1, e1, p1⟩
  | false => exact p1.now r1
theorem zw_or (ha : ZT X a ta) (hb : ZW X (.BoolOp .Or (b :: rest) pos) tb) : ZW X (.BoolOp .Or (a :: b :: rest) pos) (tOr ta tb) := fun W tk => pw_weak (pw_or (ha W tk) (hb W tk)) fun σ H Q ⟨m, B, ρ, S, rs, e, p⟩ => tTe.take rs e p fun b S1 m1 H1 g1 r1 e1 p1 => by
  cases b with
  | true => exact p1.now r1
  | false => exact ⟨m1, B, ρ, S1, r1, e1, p1⟩
theorem zt_w {e : Expr} (h : ZW X e ta) : ZT X e ta := fun W tk => (h W tk).pt
theorem ze_one {op : BoolOp} (ha : ZE X a da) : ZE X (.BoolOp op [a] pos) da := fun W tk => pe_one (ha W tk)
theorem ze_and (ha : ZE X a da) (hb : ZE X (.BoolOp .And (b :: rest) pos) db) : ZE X (.BoolOp .And (a :: b :: rest) pos) (eAnd da db) := fun W tk => pe_weak (pe_andT (ha W tk) (hb W tk)) fun σ H Q ⟨m, B, ρ, S, rs, e, p⟩ =>
  tE.takeA rs e p fun d S1 m1 H1 v g1 r1 e1 rd p1 => by
    cases h : tru S1 d with
    | none => simp only [h] at p1; exact p1.elim
    | some b =>
      simp only [h] at p1
      refine ⟨b, tru_is r1 rd h, ?_⟩
      cases b with
      | true => exact ⟨m1, B, ρ, S1, r1, e1, p1⟩
      | false => exact p1.now r1 v rd
theorem ze_or (ha : ZE X a da) (hb : ZE X (.BoolOp .Or (b :: rest) pos) db) : ZE X (.BoolOp .Or (a :: b :: rest) pos) (eOr da db) := fun W tk => pe_weak (pe_orT (ha W tk) (hb W tk)) fun σ H Q ⟨m, B, ρ, S, rs, e, p⟩ =>
  tE.takeA rs e p fun d S1 m1 H1 v g1 r1 e1 rd p1 => by
    cases h : tru S1 d with
    | none => simp only [h] at p1; exact p1.elim
    | some b =>
      simp only [h] at p1
      refine ⟨b, tru_is r1 rd h, ?_⟩
      cases b with
      | true => exact p1.now r1 v rd
      | false => exact ⟨m1, B, ρ, S1, r1, e1, p1⟩
theorem ze_not (ha : ZE X a da) : ZE X (.UnaryOp .Not a pos) (eNot da) := fun W tk => pe_weak (pe_notT (ha W tk)) fun σ H Q ⟨m, B, ρ, S, rs, e, p⟩ =>
  tE.takeA rs e p fun d S1 m1 H1 v g1 r1 e1 rd p1 => by
    cases h : tru S1 d with
    | none => simp only [h] at p1; exact p1.elim
    | some b => simp only [h] at p1; exact ⟨b, tru_is r1 rd h, p1.now r1 _ (RDb _)⟩
theorem ze_ifx (hc : ZT X c ta) (ha : ZE X a da) (hb : ZE X b db) : ZE X (.IfExp c a b pos) (eIf ta da db) := fun W tk => pe_weak (pe_ifExp (hc W tk) (ha W tk) (hb W tk)) fun σ H Q ⟨m, B, ρ, S, rs, e, p⟩ => tTe.take rs e p fun b S1 m1 H1 g1 r1 e1 p1 => by
  cases b with
  | true => exact ⟨m1, B, ρ, S1, r1, e1, p1⟩
  | false => exact ⟨m1, B, ρ, S1, r1, e1, p1⟩
end
end Z
namespace Z
open PySem L2

/-! ### argument lists, displays -/
def aN : DA := fun _ S => .ok [] S
def aC (a : DE) (r : DA) : DA := fun ρ S => (a ρ S).bind fun d S1 => (r ρ S1).bind fun ds S2 => .ok (d :: ds) S2
def eTup (r : DA) : DE := fun ρ S => (r ρ S).bind fun ds S1 => .ok (.tup ds) S1
/-- how many there are is known -/
def LenA (n : Nat) (r : DA) : Prop := ∀ ρ S, match r ρ S with
  | .ok ds _ => ds.length = n
  | _ => True
/-- what is wanted of a new list: it is not yet in the store, and nothing else holds it -/
def PostL (K : PySem.W.Frag) (m B : List Addr) (H : Hp) (W : Value → Option Addr → Hp → Prop) (Q : VK) : R (List D) → Prop
  | .ok ds S' => ∀ m' H' p vs, Ge m H m' H' → RS K m' (p :: B) H' S' → p ∉ B → Nw H p → H' p = some (.lst vs) → RDs K m' (p :: B) H' ds vs → Q (.ref p) H'
  | .exc c d S' => ∀ m' H' x v, Ge m H m' H' → RS K m' B H' S' → H' x = some (.xd [("at", v)]) → RD K m' B H' d v → W (.ref c) (some x) H'
  | .bad => False
/-- an expression that makes a new list -/
def tL (W : WX) (K : PySem.W.Frag) (den : DA) : TE := fun σ H Q => ∃ m B ρ S, RS K m B H S ∧ REs K m B H ρ σ ∧ PostL K m B H (fun c x H' => W c x σ H') Q (den ρ S)
def ZL (X : Cx) (e : Expr) (den : DA) : Prop := ∀ W, Takes X W → PE X e (tL W X.K den)
/-- .. as a value that nobody changes -/
def eLV (r : DA) : DE := fun ρ S => (r ρ S).bind fun ds S1 => .ok (.lst ds) S1
/-- .. put into the store -/
def eLN (r : DA) : DE := fun ρ S => (r ρ S).bind fun ds S1 => .ok (.ref S1.length) (S1 ++ [.lst ds])
section
variable {X : Cx} {pos : Pos} {a b c : Expr} {es : List Expr} {da db : DE} {r : DA}
theorem tAr.take {β : Type} {W : WX} {K : PySem.W.Frag} {da : DA} {f : List D → Sto → R β} {σ : L2.St} {H : Hp} {Q' : List V → Hp → Prop} {m B : List Addr} {ρ : Env} {S : Sto} {P : β → Sto → List Addr → Hp → Prop} (r : RS K m B H S) (e : REs K m B H ρ σ)
    (h : Post K m B H (fun c x H' => W c x σ H') P ((da ρ S).bind f))
    (k : ∀ d S1 m1 H1 v, Ge m H m1 H1 → RS K m1 B H1 S1 → REs K m1 B H1 ρ σ → RDs K m1 B H1 d v → Post K m1 B H1 (fun c x H' => W c x σ H') P (f d S1) → Q' v H1) : tAr W K da σ H Q' :=
  ⟨m, B, ρ, S, r, e, (Post.bind h).imp fun d S1 m1 H1 g1 r1 p v rv => k d S1 m1 H1 v g1 r1 (e.mono g1.tr) rv p⟩
theorem za_nil : ZA X [] aN := fun W tk => pa_weak pa_nil fun σ H Q ⟨m, B, ρ, S, rs, e, p⟩ => p.now rs [] RDs.nil
theorem za_cons (ha : ZE X a da) (hr : ZA X es r) (hs : starEach (a :: es) X.env = (false, eval a X.env) :: starEach es X.env := by rfl) : ZA X (a :: es) (aC da r) := fun W tk => pa_weak (pa_cons (ha W tk) (hr W tk) hs) fun σ H Q ⟨m, B, ρ, S, rs, e, p⟩ =>
  tE.takeA rs e p fun d S1 m1 H1 v g1 r1 e1 rd p1 => tAr.take r1 e1 p1 fun ds S2 m2 H2 vs g2 r2 e2 rds p2 => p2.now r2 (v :: vs) (RDs.cons (rd.mono g2.tr) rds)
theorem lenA_nil : LenA 0 aN := fun _ _ => rfl
theorem lenA_cons {n : Nat} (h : LenA n r) : LenA (n + 1) (aC da r) := fun ρ S => by
  unfold aC
  cases da ρ S with
  | ok d S1 =>
    simp only [R.bind_ok]
    have := h ρ S1
    cases hr : r ρ S1 with
    | ok ds S2 =>
      rw [hr] at this
      simp only [R.bind_ok, List.length_cons]
      omega
    | exc _ _ _ => trivial
    | bad => trivial
  | exc _ _ _ => trivial
  | bad => trivial
theorem ze_tup {n x1 : Nat} (h : ZA X es r) (hl : LenA n r) (hn : n ≤ 1000 := by decide) : ZE X (.Tuple es x1 pos) (eTup r) := fun W tk => pe_weak (pe_tup (h W tk)) fun σ H Q ⟨m, B, ρ, S, rs, e, p⟩ => by
  have hl := hl ρ S
  unfold eTup at p
  refine ⟨m, B, ρ, S, rs, e, ?_⟩
  cases hr : r ρ S with
  | ok ds S1 =>
    rw [hr] at p hl
    refine fun m1 H1 g1 r1 vs rv => ⟨?_, fun q hq => ?_⟩
    · rw [← rv.len, hl, sizeLine_eq]
      omega
    · obtain ⟨g2, r2⟩ := r1.new (u := .tup vs) hq
      refine (show Post X.K m B H _ _ (R.ok (D.tup ds) S1) from p) m1 _ (g1.trans g2) r2 _ ?_
      unfold RD
      exact ⟨q, vs, rfl, .inl ⟨r1.notin hq, r1.notB hq, .inl upd_same⟩, RDs.mono g2.tr _ _ rv⟩
  | exc c d S1 => rw [hr] at p; exact p
  | bad => rw [hr] at p; exact p
theorem Ge.new_was {m m' : List Addr} {H H' : Hp} {p : Addr} (g : Ge m H m' H') (hm : p ∉ m') (h : H' p = none) : Nw H p := fun o hh nt => by
  have hn : p ∉ m := fun q => hm (by obtain ⟨⟨l, e⟩, _⟩ := g; rw [e]; exact List.mem_append_left _ q)
  have := (g.keep p o hn hh nt).2
  rw [h] at this
  cases this
theorem Ge.new_wasN {m m' : List Addr} {H H' : Hp} {p : Addr} (g : Ge m H m' H') (hm : p ∉ m') (h : Nw H' p) : Nw H p := fun o hh nt => by
  have hn : p ∉ m := fun q => hm (by obtain ⟨⟨l, e⟩, _⟩ := g; rw [e]; exact List.mem_append_left _ q)
  exact h o (g.keep p o hn hh nt).2 nt
theorem RS.out {K : PySem.W.Frag} {m m' B : List Addr} {H H' : Hp} {S : Sto} {p : Addr} (r : RS K m' (p :: B) H' S) (g : Ge m H m' H') : p ∉ m := fun z => r.dis p (by obtain ⟨⟨l, e⟩, _⟩ := g; rw [e]; exact List.mem_append_left _ z) (List.mem_cons_self ..)
theorem zl_lst {n : Nat} (h : ZA X es r) (hl : LenA n r) (hn : n ≤ 1000 := by decide) : ZL X (.List es pos) r := fun W tk => pe_weak (pe_lst (h W tk)) fun σ H Q ⟨m, B, ρ, S, rs, e, p⟩ => by
  have hl := hl ρ S
  refine ⟨m, B, ρ, S, rs, e, ?_⟩
  cases hr : r ρ S with
  | ok ds S1 =>
    rw [hr] at p hl
    refine fun m1 H1 g1 r1 vs rv => ⟨?_, fun q hq => ?_⟩
    · rw [← rv.len, hl, sizeLine_eq]
      omega
    · exact p m1 _ q vs (g1.trans (r1.new hq).1) (r1.ban hq) (r1.notB hq) (g1.new_was (r1.notin hq) hq) upd_same (RDs.mono (Tr.ban hq) _ _ rv)
  | exc c d S1 => rw [hr] at p; exact p
  | bad => rw [hr] at p; exact p
theorem tl_lv {W : WX} {K : PySem.W.Frag} {σ : L2.St} {H : Hp} {Q : VK} (h : tE W K (eLV r) σ H Q) : tL W K r σ H Q := by
  obtain ⟨m, B, ρ, S, rs, e, p⟩ := h
  refine ⟨m, B, ρ, S, rs, e, ?_⟩
  unfold eLV at p
  cases hr : r ρ S with
  | ok ds S1 =>
    rw [hr] at p
    refine fun m1 H2 q vs g1 r2 hB h0 h2 rv => p m1 H2 g1 r2.free _ ?_
    unfold RD
    exact ⟨q, vs, rfl, ⟨fun hm => r2.dis q hm (List.mem_cons_self ..), hB, h2⟩, RDs.mono Tr.free _ _ rv⟩
  | exc c d S1 => rw [hr] at p; exact p
  | bad => rw [hr] at p; exact p
theorem tl_ln {W : WX} {K : PySem.W.Frag} {σ : L2.St} {H : Hp} {Q : VK} (h : tE W K (eLN r) σ H Q) : tL W K r σ H Q := by
  obtain ⟨m, B, ρ, S, rs, e, p⟩ := h
  refine ⟨m, B, ρ, S, rs, e, ?_⟩
  unfold eLN at p
  cases hr : r ρ S with
  | ok ds S1 =>
    rw [hr] at p
    refine fun m1 H2 q vs g1 r2 hB h0 h2 rv => p (m1 ++ [q]) H2 (g1.own h0) (r2.own hB ⟨vs, h2, RDs.mono Tr.own _ _ rv⟩) _ ?_
    unfold RD
    exact ⟨q, rfl, by rw [List.getElem?_append_right (by rw [r2.len]; exact Nat.le_refl _), r2.len]; simp⟩
  | exc c d S1 => rw [hr] at p; exact p
  | bad => rw [hr] at p; exact p
theorem ze_lv (h : ZL X a r) : ZE X a (eLV r) := fun W tk => pe_weak (h W tk) fun σ H Q p => tl_lv p
theorem ze_ln (h : ZL X a r) : ZE X a (eLN r) := fun W tk => pe_weak (h W tk) fun σ H Q p => tl_ln p
end

/-! ### an item by its place -/
def fIx (d e : D) (S : Sto) : R D := match d, e with
  | .tup ds, .int i => match atI ds i with
    | some x => .ok x S
    | none => .bad
  | .lst ds, .int i => match atI ds i with
    | some x => .ok x S
    | none => .bad
  | .scr ds, .int i => match atI ds i with
    | some x => .ok x S
    | none => .bad
  | .ref n, .int i => match S[n]? with
    | some (.lst ds) => match atI ds i with
      | some x => .ok x S
      | none => .bad
    | _ => .bad
  | .str s, .int i => if s.length ≤ 16777216 then match atI s.cps.toList i with
      | some c => .ok (.str ⟨#[c]⟩) S
      | none => .bad else .bad
  | _, _ => .bad
theorem RDs.atI {K : PySem.W.Frag} {m B : List Addr} {H : Hp} {ds : List D} {vs : List V} {i : Int} {d : D} (h : RDs K m B H ds vs) (e : L2.atI ds i = some d) : ∃ v, L2.atI vs i = some v ∧ RD K m B H d v := by
  unfold L2.atI at e ⊢
  rw [← h.len]
  cases hj : ixN ds.length i with
  | none => rw [hj] at e; cases e
  | some j =>
    rw [hj] at e
    exact h.get e
theorem okIx {K : PySem.W.Frag} : OkOp K (rIx K) fIx := by
  intro m B H S d e x y W Q rs rd re p
  cases e with
  | int i =>
    have hy : y = .int i := by unfold RD at re; exact re
    subst hy
    cases d with
    | tup ds =>
      unfold RD at rd
      obtain ⟨a, vs, rfl, f, r⟩ := rd
      simp only [fIx] at p
      cases h : atI ds i with
      | none => rw [h] at p; exact p.elim
      | some z =>
        rw [h] at p
        obtain ⟨v, hv, rv⟩ := r.atI h
        exact .inr (.inl ⟨a, vs, i, v, rfl, rfl, f.sq, hv, p.now rs v rv⟩)
    | lst ds =>
      unfold RD at rd
      obtain ⟨a, vs, rfl, f, r⟩ := rd
      simp only [fIx] at p
      cases h : atI ds i with
      | none => rw [h] at p; exact p.elim
      | some z =>
        rw [h] at p
        obtain ⟨v, hv, rv⟩ := r.atI h
        exact .inl ⟨a, vs, i, v, rfl, rfl, f.sq, hv, p.now rs v rv⟩
    | scr ds =>
      unfold RD at rd
      obtain ⟨a, vs, rfl, f, r⟩ := rd
      simp only [fIx] at p
      cases h : atI ds i with
      | none => rw [h] at p; exact p.elim
      | some z =>
        rw [h] at p
        obtain ⟨v, hv, rv⟩ := r.atI h
        exact .inl ⟨a, vs, i, v, rfl, rfl, f.sq, hv, p.now rs v rv⟩
    | ref n =>
      unfold RD at rd
      obtain ⟨a, rfl, q⟩ := rd
      simp only [fIx] at p
      split at p
      · rename_i ds hn
        obtain ⟨vs, ea, r⟩ := rs.ob n a _ q hn
        cases h : atI ds i with
        | none => rw [h] at p; exact p.elim
        | some z =>
          rw [h] at p
          obtain ⟨v, hv, rv⟩ := r.atI h
          exact .inl ⟨a, vs, i, v, rfl, rfl, SqL.of ea, hv, p.now rs v rv⟩
      · exact p.elim
    | str s =>
      unfold RD at rd
      subst rd
      simp only [fIx] at p
      split at p
      · rename_i hz
        cases h : atI s.cps.toList i with
        | none => rw [h] at p; exact p.elim
        | some z =>
          rw [h] at p
          exact .inr (.inr ⟨s, i, z, rfl, rfl, by rw [sizeLine_eq]; exact hz, h, p.now rs _ (RDst _)⟩)
      · exact p.elim
    | _ => exact p.elim
  | _ => cases d <;> exact p.elim
section
variable {X : Cx} {pos : Pos} {a b : Expr} {da db : DE}
theorem ze_sub_ix (ha : ZE X a da) (hb : ZE X b db) (hs : PlainIx b := by exact fun _ _ => rfl) : ZE X (.Subscript a b pos) (e2 fIx da db) := ze_ix ix_seq okIx ha hb hs
end

/-! ### built-ins, called -/
def eCall (f : List D → Sto → R D) (r : DA) : DE := fun ρ S => (r ρ S).bind f
def OkCall (K : PySem.W.Frag) (r : List V → Hp → VK → Prop) (f : List D → Sto → R D) : Prop := ∀ m B H S ds vs (W : Value → Option Addr → Hp → Prop) (Q : VK), RS K m B H S → RDs K m B H ds vs → Post K m B H W (fun d _ m' H' => ∀ v, RD K m' B H' d v → Q v H') (f ds S) → r vs H Q
section
variable {X : Cx} {pos p0 : Pos} {e : Expr} {es : List Expr} {x : Str} {r : List V → Hp → VK → Prop} {f : List D → Sto → R D} {t : DA}
theorem ze_callB {id : String} (hc : CallR X (.builtin id) r) (h : OkCall X.K r f) (hm : X.mg x = none) (ha : ZA X (e :: es) t) (hg : Gl X x := by rfl) (hv : bootBuiltins x = some (.builtin id) := by decide +kernel) (hn : x ≠ "__name__" := by decide) (hdb : (x == ("__debug__" : Str)) = false := by decide)
    (he : starEach (e :: es) X.env = (false, eval e X.env) :: starEach es X.env := by rfl) (hpl : (backTo pos (starEach es X.env)).any (·.1) = false := by rfl) : ZE X (.Call (.Name x p0) (e :: es) [] pos) (eCall f t) := fun W tk =>
  pe_weak (pe_callB hc hg hm hv (ha W tk) hn hdb he hpl) fun σ H Q ⟨m, B, ρ, S, rs, e, p⟩ => tAr.take rs e p fun ds S1 m1 H1 vs g1 r1 e1 rds p1 => h m1 B H1 S1 ds vs _ Q r1 rds p1
theorem ze_callTy {T : String} (hc : CallR X (.type T) r) (h : OkCall X.K r f) (hm : X.mg x = none) (ha : ZA X (e :: es) t) (hg : Gl X x := by rfl) (hv : bootBuiltins x = some (.type T) := by decide +kernel) (hn : x ≠ "__name__" := by decide) (hdb : (x == ("__debug__" : Str)) = false := by decide)
    (he : starEach (e :: es) X.env = (false, eval e X.env) :: starEach es X.env := by rfl) (hpl : (backTo pos (starEach es X.env)).any (·.1) = false := by rfl) : ZE X (.Call (.Name x p0) (e :: es) [] pos) (eCall f t) := fun W tk =>
  pe_weak (pe_callTy hc hg hm hv (ha W tk) hn hdb he hpl) fun σ H Q ⟨m, B, ρ, S, rs, e, p⟩ => tAr.take rs e p fun ds S1 m1 H1 vs g1 r1 e1 rds p1 => h m1 B H1 S1 ds vs _ Q r1 rds p1
end
theorem RDs.one {K : PySem.W.Frag} {m B : List Addr} {H : Hp} {d : D} {vs : List V} (h : RDs K m B H [d] vs) : ∃ v, vs = [v] ∧ RD K m B H d v := by
  unfold RDs at h
  obtain ⟨x, r, rfl, h1, h2⟩ := h
  unfold RDs at h2
  subst h2
  exact ⟨x, rfl, h1⟩
theorem RDs.two {K : PySem.W.Frag} {m B : List Addr} {H : Hp} {d e : D} {vs : List V} (h : RDs K m B H [d, e] vs) : ∃ v w, vs = [v, w] ∧ RD K m B H d v ∧ RD K m B H e w := by
  unfold RDs at h
  obtain ⟨x, r, rfl, h1, h2⟩ := h
  obtain ⟨w, rfl, h3⟩ := h2.one
  exact ⟨x, w, rfl, h1, h3⟩
/-- the items of a list or a tuple -/
def seqOf (S : Sto) : D → Option (List D)
  | .tup ds => some ds
  | .lst ds => some ds
  | .scr ds => some ds
  | .ref n => match S[n]? with
    | some (.lst ds) => some ds
    | _ => none
  | _ => none
theorem seqOf_ok {K : PySem.W.Frag} {m B : List Addr} {H : Hp} {S : Sto} (rs : RS K m B H S) : ∀ {d : D} {v : V} {ds : List D}, RD K m B H d v → seqOf S d = some ds → ∃ a vs, v = .ref a ∧ (SqL K H a vs ∨ SqT K H a vs) ∧ RDs K m B H ds vs
  | .tup ds, _, _, h, e => by unfold RD at h; obtain ⟨a, vs, rfl, f, r⟩ := h; simp only [seqOf] at e; cases e; exact ⟨a, vs, rfl, .inr f.sq, r⟩
  | .lst ds, _, _, h, e => by unfold RD at h; obtain ⟨a, vs, rfl, f, r⟩ := h; simp only [seqOf] at e; cases e; exact ⟨a, vs, rfl, .inl f.sq, r⟩
  | .scr ds, _, _, h, e => by unfold RD at h; obtain ⟨a, vs, rfl, f, r⟩ := h; simp only [seqOf] at e; cases e; exact ⟨a, vs, rfl, .inl f.sq, r⟩
  | .ref n, _, _, h, e => by
    unfold RD at h
    obtain ⟨a, rfl, q⟩ := h
    simp only [seqOf] at e
    split at e
    · rename_i ds hn
      cases e
      obtain ⟨vs, ea, rv⟩ := rs.ob n a _ q hn
      exact ⟨a, vs, rfl, .inl (SqL.of ea), rv⟩
    · cases e
  | .non, _, _, _, e => by simp only [seqOf] at e; cases e
  | .bl _, _, _, _, e => by simp only [seqOf] at e; cases e
  | .int _, _, _, _, e => by simp only [seqOf] at e; cases e
  | .str _, _, _, _, e => by simp only [seqOf] at e; cases e
  | .adr _, _, _, _, e => by simp only [seqOf] at e; cases e
  | .ty _, _, _, _, e => by simp only [seqOf] at e; cases e
/-- a list, by its items -/
def lstOf (S : Sto) : D → Option (List D)
  | .lst ds => some ds
  | .scr ds => some ds
  | .ref n => match S[n]? with
    | some (.lst ds) => some ds
    | _ => none
  | _ => none
theorem lstOf_ok {K : PySem.W.Frag} {m B : List Addr} {H : Hp} {S : Sto} (rs : RS K m B H S) : ∀ {d : D} {v : V} {ds : List D}, RD K m B H d v → lstOf S d = some ds → ∃ a vs, v = .ref a ∧ SqL K H a vs ∧ RDs K m B H ds vs
  | .lst ds, _, _, h, e => by unfold RD at h; obtain ⟨a, vs, rfl, f, r⟩ := h; simp only [lstOf] at e; cases e; exact ⟨a, vs, rfl, f.sq, r⟩
  | .scr ds, _, _, h, e => by unfold RD at h; obtain ⟨a, vs, rfl, f, r⟩ := h; simp only [lstOf] at e; cases e; exact ⟨a, vs, rfl, f.sq, r⟩
  | .ref n, _, _, h, e => by
    unfold RD at h
    obtain ⟨a, rfl, q⟩ := h
    simp only [lstOf] at e
    split at e
    · rename_i ds hn
      cases e
      obtain ⟨vs, ea, rv⟩ := rs.ob n a _ q hn
      exact ⟨a, vs, rfl, SqL.of ea, rv⟩
    · cases e
  | .tup _, _, _, _, e => by simp only [lstOf] at e; cases e
  | .non, _, _, _, e => by simp only [lstOf] at e; cases e
  | .bl _, _, _, _, e => by simp only [lstOf] at e; cases e
  | .int _, _, _, _, e => by simp only [lstOf] at e; cases e
  | .str _, _, _, _, e => by simp only [lstOf] at e; cases e
  | .adr _, _, _, _, e => by simp only [lstOf] at e; cases e
  | .ty _, _, _, _, e => by simp only [lstOf] at e; cases e
def fLen : List D → Sto → R D
  | [.str s], S => if s.length ≤ 16777216 then .ok (.int s.length) S else .bad
  | [d], S => match seqOf S d with
    | some ds => .ok (.int ds.length) S
    | none => .bad
  | _, _ => .bad
theorem okLen {K : PySem.W.Frag} : OkCall K (fun xs H Q => (∃ z, xs = [.str z] ∧ z.length ≤ sizeLine ∧ Q (.int z.length) H) ∨ ∃ p ys, xs = [.ref p] ∧ (SqL K H p ys ∨ SqT K H p ys) ∧ Q (.int ys.length) H) fLen := by
  intro m B H S ds vs W Q rs rds p
  match ds with
  | [] => exact p.elim
  | d :: e :: r => cases d <;> exact p.elim
  | [d] =>
    obtain ⟨v, rfl, rv⟩ := rds.one
    by_cases hs : ∃ s, d = .str s
    · obtain ⟨s, rfl⟩ := hs
      unfold RD at rv
      subst rv
      have p : Post K m B H W _ (if s.length ≤ 16777216 then R.ok (D.int s.length) S else .bad) := p
      by_cases hz : s.length ≤ 16777216
      · rw [if_pos hz] at p
        exact .inl ⟨s, rfl, by rw [sizeLine_eq]; exact hz, p.now rs _ (RDi _)⟩
      · rw [if_neg hz] at p
        exact p.elim
    · have p : Post K m B H W (fun d _ m' H' => ∀ v, RD K m' B H' d v → Q v H') (match seqOf S d with
        | some ds => R.ok (D.int ds.length) S
        | none => .bad) := by
        cases d <;> first | exact p | exact absurd ⟨_, rfl⟩ hs
      cases h : seqOf S d with
      | none => rw [h] at p; exact p.elim
      | some ds =>
        rw [h] at p
        obtain ⟨a, vs, rfl, sq, r⟩ := seqOf_ok rs rv h
        exact .inr ⟨a, vs, rfl, sq, by rw [← r.len]; exact p.now rs _ (RDi _)⟩
def fAbs : List D → Sto → R D
  | [.int i], S => .ok (.int (if i < 0 then -i else i)) S
  | _, _ => .bad
theorem okAbs {K : PySem.W.Frag} : OkCall K (fun xs H Q => ∃ i, xs = [.int i] ∧ Q (.int (if i < 0 then -i else i)) H) fAbs := by
  intro m B H S ds vs W Q rs rds p
  match ds with
  | [] => exact p.elim
  | d :: e :: r => cases d <;> exact p.elim
  | [d] =>
    obtain ⟨v, rfl, rv⟩ := rds.one
    cases d <;> try exact p.elim
    rename_i i
    unfold RD at rv
    subst rv
    exact ⟨i, rfl, p.now rs _ (RDi _)⟩
def fInt : List D → Sto → R D
  | [.int i], S => .ok (.int i) S
  | [.bl b], S => .ok (.int (if b then 1 else 0)) S
  | _, _ => .bad
theorem okInt {K : PySem.W.Frag} : OkCall K (fun xs H Q => (∃ i, xs = [.int i] ∧ Q (.int i) H) ∨ ∃ k, xs = [.bl k] ∧ Q (.int (if k then 1 else 0)) H) fInt := by
  intro m B H S ds vs W Q rs rds p
  match ds with
  | [] => exact p.elim
  | d :: e :: r => cases d <;> exact p.elim
  | [d] =>
    obtain ⟨v, rfl, rv⟩ := rds.one
    cases d <;> try exact p.elim
    · rename_i i
      unfold RD at rv
      subst rv
      exact .inr ⟨i, rfl, p.now rs _ (RDi _)⟩
    · rename_i i
      unfold RD at rv
      subst rv
      exact .inl ⟨i, rfl, p.now rs _ (RDi _)⟩
/-- tuple(..) of a list | of a tuple -/
def fTuple : List D → Sto → R D
  | [d], S => match seqOf S d with
    | some ds => .ok (.tup ds) S
    | none => .bad
  | _, _ => .bad
theorem okTuple {K : PySem.W.Frag} : OkCall K (fun xs H Q => ∃ p ys, xs = [.ref p] ∧ ((SqL K H p ys ∧ ∀ l, H l = none → Q (.ref l) (upd H l (.tup ys))) ∨ (SqT K H p ys ∧ Q (.ref p) H))) fTuple := by
  intro m B H S ds vs W Q rs rds p
  match ds with
  | [] => exact p.elim
  | d :: e :: r => exact p.elim
  | [d] =>
    obtain ⟨v, rfl, rv⟩ := rds.one
    have p : Post K m B H W _ (match seqOf S d with
        | some ds => R.ok (D.tup ds) S
        | none => .bad) := p
    have fin : ∀ {a : Addr} {ds : List D} {vs : List V}, SqL K H a vs → RDs K m B H ds vs → Post K m B H W (fun d _ m' H' => ∀ v, RD K m' B H' d v → Q v H') (.ok (.tup ds) S) → ∀ l, H l = none → Q (.ref l) (upd H l (.tup vs)) := fun {a ds vs} sq r p l hl => by
      obtain ⟨g2, r2⟩ := rs.new (u := .tup vs) hl
      refine p m _ g2 r2 _ ?_
      unfold RD
      exact ⟨l, vs, rfl, .inl ⟨rs.notin hl, rs.notB hl, .inl upd_same⟩, RDs.mono g2.tr _ _ r⟩
    cases d with
    | tup ds =>
      have rv' := rv
      unfold RD at rv
      obtain ⟨a, vs, rfl, f, r⟩ := rv
      exact ⟨a, vs, rfl, .inr ⟨f.sq, p.now rs _ rv'⟩⟩
    | lst ds =>
      unfold RD at rv
      obtain ⟨a, vs, rfl, f, r⟩ := rv
      exact ⟨a, vs, rfl, .inl ⟨f.sq, fin f.sq r p⟩⟩
    | scr ds =>
      unfold RD at rv
      obtain ⟨a, vs, rfl, f, r⟩ := rv
      exact ⟨a, vs, rfl, .inl ⟨f.sq, fin f.sq r p⟩⟩
    | ref n =>
      unfold RD at rv
      obtain ⟨a, rfl, q⟩ := rv
      simp only [seqOf] at p
      cases h : S[n]? with
      | none => rw [h] at p; exact p.elim
      | some o =>
        rw [h] at p
        cases o with
        | lst ds =>
          obtain ⟨vs, ea, r⟩ := rs.ob n a _ q h
          exact ⟨a, vs, rfl, .inl ⟨SqL.of ea, fin (SqL.of ea) r p⟩⟩
        | ins C fs => exact p.elim
        | dct kvs => exact p.elim
        | dcT kvs => exact p.elim
        | iset S n => exact p.elim
        | tab P q => exact p.elim
    | _ => exact p.elim
/-- all(..), any(..) of truth values -/
def bools : List D → Option (List Bool)
  | [] => some []
  | .bl b :: r => (bools r).map fun bs => b :: bs
  | _ :: _ => none
theorem bools_ok {K : PySem.W.Frag} {m B : List Addr} {H : Hp} : ∀ {ds : List D} {vs : List V} {bs : List Bool}, RDs K m B H ds vs → bools ds = some bs → vs = bs.map V.bl
  | [], _, _, h, e => by unfold RDs at h; simp only [bools] at e; cases e; exact h
  | d :: ds, _, _, h, e => by
    unfold RDs at h
    obtain ⟨x, r, rfl, h1, h2⟩ := h
    cases d with
    | bl b =>
      unfold RD at h1
      subst h1
      simp only [bools, Option.map_eq_some_iff] at e
      obtain ⟨bs, e1, rfl⟩ := e
      rw [bools_ok h2 e1]
      rfl
    | _ => simp only [bools] at e; cases e
def fAll : List D → Sto → R D
  | [d], S => match (lstOf S d).bind bools with
    | some bs => .ok (.bl (bs.all id)) S
    | none => .bad
  | _, _ => .bad
def fAny : List D → Sto → R D
  | [d], S => match (lstOf S d).bind bools with
    | some bs => .ok (.bl (bs.any id)) S
    | none => .bad
  | _, _ => .bad
theorem okAll {K : PySem.W.Frag} : OkCall K (rAll K) fAll := by
  intro m B H S ds vs W Q rs rds p
  match ds with
  | [] => exact p.elim
  | d :: e :: r => exact p.elim
  | [d] =>
    obtain ⟨v, rfl, rv⟩ := rds.one
    simp only [fAll] at p
    cases h : (lstOf S d).bind bools with
    | none => rw [h] at p; exact p.elim
    | some bs =>
      rw [h] at p
      obtain ⟨ds, h1, h2⟩ := Option.bind_eq_some_iff.mp h
      obtain ⟨a, vs, rfl, sq, r⟩ := lstOf_ok rs rv h1
      rw [bools_ok r h2] at sq
      exact ⟨a, bs, rfl, sq, p.now rs _ (RDb _)⟩
theorem okAny {K : PySem.W.Frag} : OkCall K (rAny K) fAny := by
  intro m B H S ds vs W Q rs rds p
  match ds with
  | [] => exact p.elim
  | d :: e :: r => exact p.elim
  | [d] =>
    obtain ⟨v, rfl, rv⟩ := rds.one
    simp only [fAny] at p
    cases h : (lstOf S d).bind bools with
    | none => rw [h] at p; exact p.elim
    | some bs =>
      rw [h] at p
      obtain ⟨ds, h1, h2⟩ := Option.bind_eq_some_iff.mp h
      obtain ⟨a, vs, rfl, sq, r⟩ := lstOf_ok rs rv h1
      rw [bools_ok r h2] at sq
      exact ⟨a, bs, rfl, sq, p.now rs _ (RDb _)⟩
section
variable {X : Cx} {pos p0 : Pos} {e : Expr} {t : DA}
theorem ze_len (hm : X.mg "len" = none) (ha : ZA X [e] t) (hg : Gl X "len" := by rfl) (he : starEach [e] X.env = (false, eval e X.env) :: starEach [] X.env := by rfl) : ZE X (.Call (.Name "len" p0) [e] [] pos) (eCall fLen t) := ze_callB (call_len_str.or call_len_seq) okLen hm ha hg (he := he)
theorem ze_abs (hm : X.mg "abs" = none) (ha : ZA X [e] t) (hg : Gl X "abs" := by rfl) (he : starEach [e] X.env = (false, eval e X.env) :: starEach [] X.env := by rfl) : ZE X (.Call (.Name "abs" p0) [e] [] pos) (eCall fAbs t) := ze_callB call_abs okAbs hm ha hg (he := he)
theorem ze_int1 (hm : X.mg "int" = none) (ha : ZA X [e] t) (hg : Gl X "int" := by rfl) (he : starEach [e] X.env = (false, eval e X.env) :: starEach [] X.env := by rfl) : ZE X (.Call (.Name "int" p0) [e] [] pos) (eCall fInt t) := ze_callTy call_int1 okInt hm ha hg (he := he)
theorem ze_tuple (hm : X.mg "tuple" = none) (ha : ZA X [e] t) (hg : Gl X "tuple" := by rfl) (he : starEach [e] X.env = (false, eval e X.env) :: starEach [] X.env := by rfl) : ZE X (.Call (.Name "tuple" p0) [e] [] pos) (eCall fTuple t) := ze_callTy call_tuple_of okTuple hm ha hg (he := he)
theorem ze_all (hc : X.calm = true) (hm : X.mg "all" = none) (ha : ZA X [e] t) (hg : Gl X "all" := by rfl) (he : starEach [e] X.env = (false, eval e X.env) :: starEach [] X.env := by rfl) : ZE X (.Call (.Name "all" p0) [e] [] pos) (eCall fAll t) := ze_callB (cr_all hc) okAll hm ha hg (he := he)
theorem ze_any (hc : X.calm = true) (hm : X.mg "any" = none) (ha : ZA X [e] t) (hg : Gl X "any" := by rfl) (he : starEach [e] X.env = (false, eval e X.env) :: starEach [] X.env := by rfl) : ZE X (.Call (.Name "any" p0) [e] [] pos) (eCall fAny t) := ze_callB (cr_any hc) okAny hm ha hg (he := he)
end
end Z
namespace Z
open PySem L2

/-! ### isinstance -/
def tNames : List String := ["NoneType", "bool", "int", "str", "tuple", "list", "dict", "set"]
/-- what the written part says of the own classes at cs -/
structure Kit (K : PySem.W.Frag) (cs : List Addr) : Prop where
  cl : ∀ c ∈ cs, Cls K c
  ca : ∀ c ∈ cs, PySem.W.findIn K (.ref c) "__class__" = some (some (.builtin "object.__class__"))
  cg : PySem.W.specialIn K (.builtin "object.__class__") "__get__" = some (some (.builtin "getset_descriptor.__get__"))
  ct : PySem.W.takesIn K (.builtin "object.__class__") = some true
  cm : ∀ c ∈ cs, PySem.W.mroIn K c (.type "object") = some true
  o2t : ∀ c ∈ cs, ∀ T ∈ tNames, PySem.W.kitOne K (.ref c) (.type T) = some false
  t2o : ∀ C ∈ cs, ∀ T ∈ tNames, PySem.W.kitOne K (.type T) (.ref C) = some false
  o2o : ∀ c ∈ cs, ∀ C ∈ cs, PySem.W.kitOne K (.ref c) (.ref C) = some (decide (c = C))
/-- a value's kind: a built-in type | an own class of those known -/
def tyD (cs : List Addr) (S : Sto) : D → Option (Sum String Addr)
  | .non => some (.inl "NoneType")
  | .bl _ => some (.inl "bool")
  | .int _ => some (.inl "int")
  | .str _ => some (.inl "str")
  | .tup _ => some (.inl "tuple")
  | .lst _ => some (.inl "list")
  | .scr _ => some (.inl "list")
  | .ref n => match S[n]? with
    | some (.lst _) => some (.inl "list")
    | some (.ins c _) => if c ∈ cs then some (.inr c) else none
    | some (.dct _) => some (.inl "dict")
    | some (.dcT _) => some (.inl "dict")
    | some (.iset _ _) => some (.inl "set")
    | _ => none
  | _ => none
def kV2 : Sum String Addr → Value
  | .inl T => .type T
  | .inr c => .ref c
theorem tyD_ok {K : PySem.W.Frag} {cs : List Addr} (kit : Kit K cs) {m B : List Addr} {H : Hp} {S : Sto} (rs : RS K m B H S) : ∀ {d : D} {v : V} {t : Sum String Addr}, RD K m B H d v → tyD cs S d = some t → TyX K H v (kV2 t) ∧ (match t with | .inl T => T ∈ tNames | .inr c => c ∈ cs)
  | .non, _, _, h, e => by unfold RD at h; subst h; simp only [tyD] at e; cases e; exact ⟨.base .non, (by decide : "NoneType" ∈ tNames)⟩
  | .bl _, _, _, h, e => by unfold RD at h; subst h; simp only [tyD] at e; cases e; exact ⟨.base (.bl _), (by decide : "bool" ∈ tNames)⟩
  | .int _, _, _, h, e => by unfold RD at h; subst h; simp only [tyD] at e; cases e; exact ⟨.base (.int _), (by decide : "int" ∈ tNames)⟩
  | .str _, _, _, h, e => by unfold RD at h; subst h; simp only [tyD] at e; cases e; exact ⟨.base (.str _), (by decide : "str" ∈ tNames)⟩
  | .tup _, _, _, h, e => by
    unfold RD at h
    obtain ⟨a, vs, rfl, f, r⟩ := h
    simp only [tyD] at e
    cases e
    refine ⟨?_, (by decide : "tuple" ∈ tNames)⟩
    rcases f with ⟨_, _, f | ⟨o, f⟩⟩ | ⟨o, its, n, h1, h2, _⟩
    · exact .base (.tup f)
    · exact .fTuple f
    · exact .kTuple h1 h2
  | .lst _, _, _, h, e => by
    unfold RD at h
    obtain ⟨a, vs, rfl, f, r⟩ := h
    simp only [tyD] at e
    cases e
    exact ⟨.base (.lst f.2.2), (by decide : "list" ∈ tNames)⟩
  | .scr _, _, _, h, e => by
    unfold RD at h
    obtain ⟨a, vs, rfl, f, r⟩ := h
    simp only [tyD] at e
    cases e
    refine ⟨?_, (by decide : "list" ∈ tNames)⟩
    rcases f with ⟨_, _, f | ⟨o, f⟩⟩ | ⟨o, its, n, h1, h2, _⟩
    · exact .base (.lst f)
    · exact .base (.frz f)
    · exact .kList h1 h2
  | .ref n, _, _, h, e => by
    unfold RD at h
    obtain ⟨a, rfl, q⟩ := h
    simp only [tyD] at e
    split at e
    · rename_i ds hn
      cases e
      obtain ⟨vs, ea, rv⟩ := rs.ob n a _ q hn
      exact ⟨.base (.lst ea), (by decide : "list" ∈ tNames)⟩
    · rename_i c fs hn
      split at e
      · rename_i hc
        cases e
        obtain ⟨dx, vs, ea, rv⟩ := rs.ob n a _ q hn
        exact ⟨.base (.ins ea (kit.cl c hc) (kit.ca c hc) kit.cg kit.ct (kit.cm c hc)), hc⟩
      · cases e
    · rename_i kvs hn
      cases e
      obtain ⟨vs, ea, rv⟩ := rs.ob n a _ q hn
      exact ⟨.base (.dK ea), (by decide : "dict" ∈ tNames)⟩
    · rename_i kvs hn
      cases e
      obtain ⟨vs, ea, rv⟩ := rs.ob n a _ q hn
      exact ⟨.base (.dT ea), (by decide : "dict" ∈ tNames)⟩
    · rename_i p k hn
      cases e
      have ea := rs.ob n a _ q hn
      exact ⟨.set ea, (by decide : "set" ∈ tNames)⟩
    · cases e
  | .adr _, _, _, _, e => by simp only [tyD] at e; cases e
  | .ty _, _, _, _, e => by simp only [tyD] at e; cases e
/-- is what is of one kind of another? -/
def isK (cs : List Addr) : Sum String Addr → D → Option Bool
  | .inl a, .ty b => if a ∈ tNames ∧ b ∈ tNames then some (decide (a = b) || (decide (a = "bool") && decide (b = "int"))) else none
  | .inl a, .adr c => if a ∈ tNames ∧ c ∈ cs then some false else none
  | .inr c, .ty b => if c ∈ cs ∧ b ∈ tNames then some false else none
  | .inr c, .adr c' => if c ∈ cs ∧ c' ∈ cs then some (decide (c = c')) else none
  | _, _ => none
theorem kit_names : ∀ a ∈ tNames, ∀ b ∈ tNames, kitB a b = some (decide (a = b) || (decide (a = "bool") && decide (b = "int"))) := by decide +kernel
theorem isK_ok {K : PySem.W.Frag} {cs : List Addr} (kit : Kit K cs) {m B : List Addr} {H : Hp} : ∀ {t : Sum String Addr} {d : D} {v : V} {b : Bool}, RD K m B H d v → isK cs t d = some b → ∃ u, ClsV v u ∧ PySem.W.kitOne K (kV2 t) u = some b
  | .inl a, .ty b, _, _, h, e => by
    unfold RD at h; subst h
    simp only [isK] at e
    split at e
    · rename_i hh
      refine ⟨.type b, .ty b, ?_⟩
      rw [← e]
      exact kit_ty (kit_names a hh.1 b hh.2)
    · cases e
  | .inl a, .adr c, _, _, h, e => by
    unfold RD at h; subst h
    simp only [isK] at e
    split at e
    · rename_i hh
      refine ⟨.ref c, .own c, ?_⟩
      rw [← e]
      exact kit.t2o c hh.2 a hh.1
    · cases e
  | .inr c, .ty b, _, _, h, e => by
    unfold RD at h; subst h
    simp only [isK] at e
    split at e
    · rename_i hh
      refine ⟨.type b, .ty b, ?_⟩
      rw [← e]
      exact kit.o2t c hh.1 b hh.2
    · cases e
  | .inr c, .adr c', _, _, h, e => by
    unfold RD at h; subst h
    simp only [isK] at e
    split at e
    · rename_i hh
      refine ⟨.ref c', .own c', ?_⟩
      rw [← e]
      exact kit.o2o c hh.1 c' hh.2
    · cases e
  | .inl _, .non, _, _, _, e | .inl _, .bl _, _, _, _, e | .inl _, .int _, _, _, _, e | .inl _, .str _, _, _, _, e | .inl _, .tup _, _, _, _, e | .inl _, .lst _, _, _, _, e | .inl _, .scr _, _, _, _, e | .inl _, .ref _, _, _, _, e => by simp only [isK] at e; cases e
  | .inr _, .non, _, _, _, e | .inr _, .bl _, _, _, _, e | .inr _, .int _, _, _, _, e | .inr _, .str _, _, _, _, e | .inr _, .tup _, _, _, _, e | .inr _, .lst _, _, _, _, e | .inr _, .scr _, _, _, _, e | .inr _, .ref _, _, _, _, e => by simp only [isK] at e; cases e
def anyK (cs : List Addr) (t : Sum String Addr) : List D → Option Bool
  | [] => some false
  | d :: r => match isK cs t d with
    | some true => some true
    | some false => anyK cs t r
    | none => none
theorem anyK_ok {K : PySem.W.Frag} {cs : List Addr} (kit : Kit K cs) {m B : List Addr} {H : Hp} {t : Sum String Addr} : ∀ {ds : List D} {vs : List V} {b : Bool}, RDs K m B H ds vs → anyK cs t ds = some b → ∃ us, Vals vs us ∧ (∀ ws, Vals vs ws → PySem.W.kitAny K (kV2 t) ws = some b)
  | [], _, _, h, e => by
    unfold RDs at h; subst h
    simp only [anyK] at e
    cases e
    exact ⟨[], .nil, fun ws w => by cases w; rfl⟩
  | d :: ds, _, b, h, e => by
    unfold RDs at h
    obtain ⟨x, r, rfl, h1, h2⟩ := h
    simp only [anyK] at e
    cases hk : isK cs t d with
    | none => rw [hk] at e; cases e
    | some k =>
      rw [hk] at e
      obtain ⟨u, hu, hku⟩ := isK_ok kit h1 hk
      have xu : ∃ u', RelV x u' := by cases hu with
        | ty n => exact ⟨_, rfl⟩
        | own C => exact ⟨_, rfl⟩
      obtain ⟨u', ru'⟩ := xu
      have hw : ∀ w, RelV x w → w = u := fun w rw => ClsV.eq hu rw
      cases k with
      | true =>
        cases e
        have rest : ∀ {ds : List D} {vs : List V}, RDs K m B H ds vs → ∃ us, Vals vs us := by
          intro ds
          induction ds with
          | nil => intro vs h; unfold RDs at h; subst h; exact ⟨[], .nil⟩
          | cons d ds ih =>
            intro vs h
            unfold RDs at h
            obtain ⟨x, r, rfl, g1, g2⟩ := h
            obtain ⟨us, hus⟩ := ih g2
            have : ∃ w, RelV x w := by
              cases x with
              | int i => exact ⟨.int i 0, 0, rfl⟩
              | str i => exact ⟨.str i 0, 0, rfl⟩
              | byt i => exact ⟨.bytes i 0, 0, rfl⟩
              | flt i => exact ⟨.float i 0, 0, rfl⟩
              | _ => exact ⟨_, rfl⟩
            obtain ⟨w, hw⟩ := this
            exact ⟨w :: us, .cons hw hus⟩
        obtain ⟨us, hus⟩ := rest h2
        refine ⟨u' :: us, .cons ru' hus, fun ws hws => ?_⟩
        cases hws with
        | cons r1 r2 =>
          rw [hw _ r1]
          unfold PySem.W.kitAny
          rw [hku]
      | false =>
        obtain ⟨us, hus, hall⟩ := anyK_ok kit h2 e
        refine ⟨u' :: us, .cons ru' hus, fun ws hws => ?_⟩
        cases hws with
        | cons r1 r2 =>
          rw [hw _ r1]
          unfold PySem.W.kitAny
          rw [hku]
          exact hall _ r2
def fIsi (cs : List Addr) : List D → Sto → R D
  | [d, .tup ts], S => rB ((tyD cs S d).bind fun t => anyK cs t ts) S
  | [d, c], S => rB ((tyD cs S d).bind fun t => isK cs t c) S
  | _, _ => .bad
/-- isinstance(x, a tuple of classes) -/
def rIsiQ (K : PySem.W.Frag) : List V → Hp → VK → Prop := fun xs H Q => ∃ (x : V) (tp : Addr) (cs : List V) (t : Value) (b : Bool), xs = [x, .ref tp] ∧ SqT K H tp cs ∧ TyX K H x t ∧ (∀ ws, Vals cs ws → PySem.W.kitAny K t ws = some b) ∧ Q (.bl b) H
theorem call_isiQ {X : Cx} : CallR X (.builtin "isinstance") (rIsiQ X.K) := by
  intro pins s σ H xs us Q I r h
  obtain ⟨x, tp, cs, t, b, rfl, hT, ty, hk, q⟩ := h
  obtain ⟨u1, u2, rfl, r1, r2⟩ := vals2 r
  cases (show u2 = Value.ref tp from r2)
  obtain ⟨P, Zk, p, hx⟩ := kit_of I r1 ty
  obtain ⟨its, rv, ⟨o, h1, h2, n, h3⟩, _⟩ := I.tuple hT
  obtain ⟨oc, od, dt, sl⟩ := o
  simp only at h2 h3
  subst h2 h3
  exact PySem.W.kia_tup Zk I.kIn p h1 (hk _ rv) hx fun tk => ⟨.bl b, H, I.tok tk, rfl, q⟩
theorem okIsi {K : PySem.W.Frag} {cs : List Addr} (kit : Kit K cs) : OkCall K (fun xs H Q => rIsi K xs H Q ∨ rIsiQ K xs H Q) (fIsi cs) := by
  intro m B H S ds vs W Q rs rds p
  match ds, rds, p with
  | [], _, p => exact p.elim
  | [_], _, p => exact p.elim
  | a :: b :: c :: r, _, p => exact (show False by cases b <;> exact p).elim
  | [d, c], rds, p =>
    obtain ⟨v, w, rfl, rv, rw⟩ := rds.two
    by_cases ht : ∃ ts, c = .tup ts
    · obtain ⟨ts, rfl⟩ := ht
      have p : Post K m B H W (fun d _ m' H' => ∀ v, RD K m' B H' d v → Q v H') (rB ((tyD cs S d).bind fun t => anyK cs t ts) S) := p
      cases h : (tyD cs S d).bind fun t => anyK cs t ts with
      | none => rw [h] at p; exact p.elim
      | some b =>
        rw [h] at p
        obtain ⟨t, h1, h2⟩ := Option.bind_eq_some_iff.mp h
        unfold RD at rw
        obtain ⟨a, us, rfl, f, r⟩ := rw
        obtain ⟨_, _, hall⟩ := anyK_ok kit r h2
        exact .inr ⟨v, a, us, _, b, rfl, f.sq, (tyD_ok kit rs rv h1).1, hall, p.now rs _ (RDb _)⟩
    · have p : Post K m B H W (fun d _ m' H' => ∀ v, RD K m' B H' d v → Q v H') (rB ((tyD cs S d).bind fun t => isK cs t c) S) := by
        cases c <;> first | exact p | exact absurd ⟨_, rfl⟩ ht
      cases h : (tyD cs S d).bind fun t => isK cs t c with
      | none => rw [h] at p; exact p.elim
      | some b =>
        rw [h] at p
        obtain ⟨t, h1, h2⟩ := Option.bind_eq_some_iff.mp h
        obtain ⟨u, hu, hk⟩ := isK_ok kit rw h2
        exact .inl ⟨v, w, _, u, b, rfl, hu, (tyD_ok kit rs rv h1).1, hk, p.now rs _ (RDb _)⟩
section
variable {X : Cx} {pos p0 : Pos} {e f : Expr} {t : DA}
theorem ze_isi {cs : List Addr} (kit : Kit X.K cs) (hm : X.mg "isinstance" = none) (ha : ZA X [e, f] t) (hg : Gl X "isinstance" := by rfl) (he : starEach [e, f] X.env = (false, eval e X.env) :: starEach [f] X.env := by rfl) (hpl : (backTo pos (starEach [f] X.env)).any (·.1) = false := by rfl) :
    ZE X (.Call (.Name "isinstance" p0) [e, f] [] pos) (eCall (fIsi cs) t) := ze_callB (call_isi.or call_isiQ) (okIsi kit) hm ha hg (he := he) (hpl := hpl)
/-- the name of a built-in type, as a value -/
theorem ze_ty {x : Str} {n : String} (hm : X.mg x = none) (hv : bootBuiltins x = some (.type n) := by decide +kernel) (hg : Gl X x := by rfl) (hn : x ≠ "__name__" := by decide) (hd : (x == ("__debug__" : Str)) = false := by decide) : ZE X (.Name x pos) (eC (.ty n)) :=
  ze_c (pe_bltn (v := .ty n) hg hm hv rfl hn hd) fun _ _ _ => RDt n
end

/-! ### attributes -/
def eFld (cs : List Addr) (f : Str) (a : DE) : DE := e1 (fun d S => match d with
  | .ref n => match S[n]? with
    | some (.ins c fs) => if c ∈ cs then match fs.lookup f with
      | some x => .ok x S
      | none => .bad else .bad
    | _ => .bad
  | _ => .bad) a
theorem RFs.look {K : PySem.W.Frag} {m B : List Addr} {H : Hp} {f : Str} : ∀ {fs : List (Str × D)} {vs : List (Str × V)} {d : D}, RFs K m B H fs vs → fs.lookup f = some d → ∃ v, vs.lookup f = some v ∧ RD K m B H d v
  | [], _, _, _, e => by cases e
  | p :: fs, _, d, ⟨x, r, e1, h1, h2⟩, e => by
    subst e1
    obtain ⟨g, y⟩ := p
    simp only [List.lookup] at e ⊢
    cases hg : f == g with
    | true =>
      rw [hg] at e
      cases e
      exact ⟨x, rfl, h1⟩
    | false =>
      rw [hg] at e
      exact RFs.look h2 e
theorem RFs.lookN {K : PySem.W.Frag} {m B : List Addr} {H : Hp} {f : Str} : ∀ {fs : List (Str × D)} {vs : List (Str × V)}, RFs K m B H fs vs → fs.lookup f = none → vs.lookup f = none
  | [], _, h, _ => by
    have h' : _ = _ := h
    rw [h']
    rfl
  | p :: fs, _, ⟨x, r, e1, h1, h2⟩, e => by
    subst e1
    obtain ⟨g, y⟩ := p
    simp only [List.lookup] at e ⊢
    cases hg : f == g with
    | true => rw [hg] at e; cases e
    | false =>
      rw [hg] at e
      exact RFs.lookN h2 e
/-- the attributes' names that stand in no class -/
def NoAtt (K : PySem.W.Frag) (cs : List Addr) (f : Str) : Prop := ∀ c ∈ cs, Cls K c ∧ NoAttr K c f
section
variable {X : Cx} {pos : Pos} {e : Expr} {de : DE}
theorem ze_fld {cs : List Addr} {f : Str} (hc : NoAtt X.K cs f) (he : ZE X e de) (hb : attributeBase e f X.env (eval e X.env) = eval e X.env := by rfl) : ZE X (.Attribute e f pos) (eFld cs f de) := fun W tk => pe_weak (pe_fld (he W tk) hb) fun σ H Q ⟨m, B, ρ, S, rs, e, p⟩ =>
  tE.takeA rs e p fun d S1 m1 H1 v g1 r1 e1 rd p1 => by
    cases d <;> try exact p1.elim
    rename_i n
    unfold RD at rd
    obtain ⟨a, rfl, q⟩ := rd
    simp only at p1
    split at p1
    · rename_i c fs hn
      split at p1
      · rename_i hcc
        cases hl : fs.lookup f with
        | none => rw [hl] at p1; exact p1.elim
        | some x =>
          rw [hl] at p1
          obtain ⟨dx, vs, ea, rf⟩ := r1.ob n a _ q hn
          obtain ⟨w, hw, rw⟩ := rf.look hl
          exact ⟨a, c, dx, vs, w, rfl, ea, (hc c hcc).1, (hc c hcc).2, hw, p1.now r1 w rw⟩
      · exact p1.elim
    · exact p1.elim
end

/-! ### the promise of a def -/
/-- F: what the def comes to on its arguments and the store -/
def spI (K : PySem.W.Frag) (n : Nat) (F : List D → Sto → R D) : Sp := fun vs H Q E => ∃ m B ds S, RS K m B H S ∧ RDs K m B H ds vs ∧ ds.length = n ∧ Post K m B H E (fun d _ m' H' => ∀ v, RD K m' B H' d v → Q v H') (F ds S)
theorem spI_len {K : PySem.W.Frag} {n : Nat} {F : List D → Sto → R D} {vs : List V} {H : Hp} {Q : VK} {E : XK} (h : spI K n F vs H Q E) : vs.length = n := by
  obtain ⟨m, B, ds, S, rs, rd, hl, _⟩ := h
  rw [← rd.len]
  exact hl
/-- f(..) with the defaults dd behind -/
def eFn (n : Nat) (F : List D → Sto → R D) (dd : List D) (r : DA) : DE := fun ρ S => (r ρ S).bind fun ds S1 => if (ds ++ dd).length = n then F (ds ++ dd) S1 else .bad
/-- what the written part holds of a def -/
structure Fd (X : Cx) (x : Str) (k n : Nat) (f : Addr) (fd : FuncData) (ps : List Str) (F : List D → Sto → R D) : Prop where
  ok : FnOk X.prog X.w X.K X.mg X.base (L2.CX X.prog X.w) k f fd ps (spI X.K n F)
  mg : X.mg x = some (.ref f)
  kp : PySem.W.keepIn X.K (.ref f) = true
section
variable {X : Cx} {pos p0 apos : Pos} {e o : Expr} {es : List Expr} {x mt : Str} {t : DA} {dobj : DE} {k n : Nat} {f C : Addr} {fd : FuncData} {ps : List Str} {F : List D → Sto → R D} {dd : List D} {dvs : List V} {ds : List Value}
theorem ze_call (G : Fd X x k n f fd ps F) (hr : Room k X.A) (hb : Binds X.K fd ps ds) (hd : Vals dvs ds) (hdd : ∀ m B H, RDs X.K m B H dd dvs) (ha : ZA X (e :: es) t) (hg : Gl X x := by rfl) (hdb : (x == ("__debug__" : Str)) = false := by decide)
    (he : starEach (e :: es) X.env = (false, eval e X.env) :: starEach es X.env := by rfl) (hpl : (backTo pos (starEach es X.env)).any (·.1) = false := by rfl) : ZE X (.Call (.Name x p0) (e :: es) [] pos) (eFn n F dd t) := fun W tk =>
  pe_weak (pe_callSD (E := fun σ => WE W σ) G.ok hr hg G.mg G.kp hb hd (fun σ => passAt tk σ) (ha W tk) hdb he hpl) fun σ H Q ⟨m, B, ρ, S, rs, e, p⟩ => tAr.take rs e p fun ds S1 m1 H1 vs g1 r1 e1 rds p1 => by
    split at p1
    · rename_i hn
      exact ⟨m1, B, ds ++ dd, S1, r1, rds.app (hdd _ _ _), hn, p1⟩
    · exact p1.elim
theorem ze_call0 (G : Fd X x k n f fd ps F) (hr : Room k X.A) (hb : Binds X.K fd ps ds) (hd : Vals dvs ds) (hdd : ∀ m B H, RDs X.K m B H dd dvs) (hg : Gl X x := by rfl) (hdb : (x == ("__debug__" : Str)) = false := by decide) :
    ZE X (.Call (.Name x p0) [] [] pos) (eFn n F dd aN) := fun W tk => ⟨fun pins s σ H Q I ⟨m, B, ρ, S, rs, e, p⟩ => by
  have p1 : Post X.K m B H (fun c x H' => W c x σ H') (fun d _ m' H' => ∀ v, RD X.K m' B H' d v → Q v H') (if ([] ++ dd).length = n then F ([] ++ dd) S else .bad) := p
  split at p1
  · rename_i hn
    refine wpAny_Call_Name_kw (ld_glob I hg G.mg ?_ hdb)
    exact PySem.W.callWith_K0 I.kIn G.kp (run_fnSD (E := fun σ => WE W σ) (us := []) (vs := []) G.ok hr hb hd (passAt tk σ) I .nil ⟨m, B, [] ++ dd, S, rs, by simpa using hdd m B H, hn, p1⟩)
  · exact p1.elim⟩
/-- o.m(..) of an own instance -/
def eMt (cs : List Addr) (mt : Str) (C : Addr) (n : Nat) (F : List D → Sto → R D) (dd : List D) (a : DE) (r : DA) : DE := fun ρ S => (a ρ S).bind fun d S1 => match d with
  | .ref k => match S1[k]? with
    | some (.ins c fs) => if c = C then match fs.lookup mt with
      | none => (r ρ S1).bind fun ds S2 => if (d :: (ds ++ dd)).length = n then F (d :: (ds ++ dd)) S2 else .bad
      | some _ => .bad else .bad
    | _ => .bad
  | _ => .bad
theorem ze_meth {cs : List Addr} {pl : Sem Bool} (ho : ZE X o dobj) (cl : Cls X.K C) (hm : Meth X.K C mt f) (ok : FnOk X.prog X.w X.K X.mg X.base (L2.CX X.prog X.w) k f fd ps (spI X.K n F)) (hr : Room k X.A) (hb : Binds X.K fd ps ds) (hd : Vals dvs ds) (hdd : ∀ m B H, RDs X.K m B H dd dvs) (ha : ZA X (e :: es) t)
    (hst : starEach (e :: es) X.env = (false, eval e X.env) :: starEach es X.env := by rfl) (hpl : (backTo pos (starEach es X.env)).any (·.1) = false := by rfl)
    (ht : eval (.Call (.Attribute o mt apos) (e :: es) [] pos) X.env = (do
      let ov ← eval o X.env
      standAt apos.atName
      let (f, first) ← holding [ov] (getMethod ov mt pl)
      callWith pos f first (backTo pos (starEach (e :: es) X.env)) (backToKw pos (keywordEach [] X.env))) := by rfl) :
    ZE X (.Call (.Attribute o mt apos) (e :: es) [] pos) (eMt cs mt C n F dd dobj t) := fun W tk => ⟨fun pins s σ H Q I ⟨m, B, ρ, S, rs, e, p⟩ => by
  refine PySem.W.methodCall_KW (pl := pl) (thn ((ho W tk).run pins s σ H (fun x H1 => ∃ m1 k a dx vs S1, RS X.K m1 B H1 S1 ∧ REs X.K m1 B H1 ρ σ ∧ x = .ref a ∧ m1[k]? = some a ∧ H1 a = some (.ins C dx vs) ∧ vs.lookup mt = none ∧ Ge m H m1 H1 ∧
      Post X.K m1 B H1 (fun c x H' => W c x σ H') (fun d _ m' H' => ∀ v, RD X.K m' B H' d v → Q v H') ((t ρ S1).bind fun ds S2 => if (D.ref k :: (ds ++ dd)).length = n then F (.ref k :: (ds ++ dd)) S2 else .bad)) I ?_) fun u s1 hh => ?_) ht
  · refine tE.takeA rs e p fun d S1 m1 H1 v g1 r1 e1 rd p1 => ?_
    cases d <;> try exact p1.elim
    rename_i k
    unfold RD at rd
    obtain ⟨a, rfl, q⟩ := rd
    simp only at p1
    split at p1
    · rename_i c fs hn
      split at p1
      · rename_i hcc
        cases hl : fs.lookup mt with
        | some x => rw [hl] at p1; exact p1.elim
        | none =>
          rw [hl] at p1
          obtain ⟨dx, vs, ea, rf⟩ := r1.ob k a _ q hn
          exact ⟨m1, k, a, dx, vs, S1, r1, e1, rfl, q, by rw [← hcc]; exact ea, rf.lookN hl, g1, p1⟩
      · exact p1.elim
    · exact p1.elim
  · obtain ⟨x, H1, I1, rx, m1, k, a, dx, vs, S1, r1, e1, rfl, q, ea, l, g1, p1⟩ := hh
    obtain rfl : u = Value.ref a := rx
    refine getmeth_ok I1 ea cl hm l ?_
    refine PySem.W.callWith_K (first := [.ref a]) (h₀ := X.base) I.ok.mod.kin hm.kp (thn ((ha W tk).run pos pins s1 σ H1 (fun vs H2 => spI X.K n F (.ref a :: (vs ++ dvs)) H2 Q (WE W σ)) I1 ?_) fun us s2 ⟨vs2, H2, I2, r, q2⟩ => ⟨I2.kIn, ?_⟩) hst hpl
    · refine tAr.take r1 e1 p1 fun ds S2 m2 H2 vs2 g2 r2 e2 rds p2 => ?_
      split at p2
      · rename_i hn
        refine ⟨m2, B, D.ref k :: (ds ++ dd), S2, r2, RDs.cons ?_ (rds.app (hdd _ _ _)), hn, p2⟩
        unfold RD
        exact ⟨a, rfl, (g2.tr (B := B)).at_ _ _ q⟩
      · exact p2.elim
    · exact run_fnSD (E := fun σ => WE W σ) (us := .ref a :: us) (vs := .ref a :: vs2) ok hr hb hd (passAt tk σ) I2 (.cons rfl r) q2⟩
theorem ze_meth0 {cs : List Addr} {pl : Sem Bool} (ho : ZE X o dobj) (cl : Cls X.K C) (hm : Meth X.K C mt f) (ok : FnOk X.prog X.w X.K X.mg X.base (L2.CX X.prog X.w) k f fd ps (spI X.K n F)) (hr : Room k X.A) (hb : Binds X.K fd ps ds) (hd : Vals dvs ds) (hdd : ∀ m B H, RDs X.K m B H dd dvs)
    (ht : eval (.Call (.Attribute o mt apos) [] [] pos) X.env = (do
      let ov ← eval o X.env
      standAt apos.atName
      let (f, first) ← holding [ov] (getMethod ov mt pl)
      callWith pos f first (backTo pos (starEach [] X.env)) (backToKw pos (keywordEach [] X.env))) := by rfl) :
    ZE X (.Call (.Attribute o mt apos) [] [] pos) (eMt cs mt C n F dd dobj aN) := fun W tk => ⟨fun pins s σ H Q I ⟨m, B, ρ, S, rs, e, p⟩ => by
  refine PySem.W.methodCall_KW (pl := pl) (thn ((ho W tk).run pins s σ H (fun x H1 => ∃ a dx vs, x = .ref a ∧ H1 a = some (.ins C dx vs) ∧ vs.lookup mt = none ∧ spI X.K n F (.ref a :: dvs) H1 Q (WE W σ)) I ?_) fun u s1 hh => ?_) ht
  · refine tE.takeA rs e p fun d S1 m1 H1 v g1 r1 e1 rd p1 => ?_
    cases d <;> try exact p1.elim
    rename_i k
    have rd' := rd
    unfold RD at rd
    obtain ⟨a, rfl, q⟩ := rd
    simp only at p1
    split at p1
    · rename_i c fs hn
      split at p1
      · rename_i hcc
        cases hl : fs.lookup mt with
        | some x => rw [hl] at p1; exact p1.elim
        | none =>
          rw [hl] at p1
          obtain ⟨dx, vs, ea, rf⟩ := r1.ob k a _ q hn
          refine ⟨a, dx, vs, rfl, by rw [← hcc]; exact ea, rf.lookN hl, ?_⟩
          have p2 : Post X.K m1 B H1 (fun c x H' => W c x σ H') (fun d _ m' H' => ∀ v, RD X.K m' B H' d v → Q v H') (if (D.ref k :: ([] ++ dd)).length = n then F (.ref k :: ([] ++ dd)) S1 else .bad) := p1
          split at p2
          · rename_i hn
            exact ⟨m1, B, D.ref k :: ([] ++ dd), S1, r1, RDs.cons rd' (by simpa using hdd m1 B H1), hn, p2⟩
          · exact p2.elim
      · exact p1.elim
    · exact p1.elim
  · obtain ⟨x, H1, I1, rx, a, dx, vs, rfl, ea, l, q2⟩ := hh
    obtain rfl : u = Value.ref a := rx
    refine getmeth_ok I1 ea cl hm l ?_
    exact PySem.W.callWith_K0 (first := [.ref a]) I1.kIn hm.kp (run_fnSD (E := fun σ => WE W σ) (us := [.ref a]) (vs := [.ref a]) ok hr hb hd (passAt tk σ) I1 (.cons rfl .nil) q2)⟩
end
end Z
namespace Z
open PySem L2

/-! ### statements -/
/-- what comes of a statement -/
inductive SR where
  | nx (ρ : Env) (S : Sto) | rt (d : D) (S : Sto) | bk (ρ : Env) (S : Sto) | ct (ρ : Env) (S : Sto) | exc (ρ : Env) (c : Addr) (d : D) (S : Sto) | bad
abbrev DS := Env → Sto → SR
def SR.then (r : SR) (f : DS) : SR := match r with
  | .nx ρ S => f ρ S
  | r => r
@[simp] theorem SR.then_nx (ρ : Env) (S : Sto) (f : DS) : (SR.nx ρ S).then f = f ρ S := rfl
@[simp] theorem SR.then_rt (d : D) (S : Sto) (f : DS) : (SR.rt d S).then f = .rt d S := rfl
@[simp] theorem SR.then_bk (ρ : Env) (S : Sto) (f : DS) : (SR.bk ρ S).then f = .bk ρ S := rfl
@[simp] theorem SR.then_ct (ρ : Env) (S : Sto) (f : DS) : (SR.ct ρ S).then f = .ct ρ S := rfl
@[simp] theorem SR.then_exc (ρ : Env) (c : Addr) (d : D) (S : Sto) (f : DS) : (SR.exc ρ c d S).then f = .exc ρ c d S := rfl
@[simp] theorem SR.then_bad (f : DS) : SR.bad.then f = .bad := rfl
def R.to {α : Type} (ρ : Env) (r : R α) (f : α → Sto → SR) : SR := match r with
  | .ok a S => f a S
  | .exc c d S => .exc ρ c d S
  | .bad => .bad
@[simp] theorem R.to_ok {α : Type} (ρ : Env) (a : α) (S : Sto) (f : α → Sto → SR) : (R.ok a S).to ρ f = f a S := rfl
@[simp] theorem R.to_exc {α : Type} (ρ : Env) (c : Addr) (d : D) (S : Sto) (f : α → Sto → SR) : (R.exc c d S : R α).to ρ f = .exc ρ c d S := rfl
@[simp] theorem R.to_bad {α : Type} (ρ : Env) (f : α → Sto → SR) : (R.bad : R α).to ρ f = .bad := rfl
def PostS (K : PySem.W.Frag) (m B : List Addr) (H : Hp) (W : WX) (E : Ends) : SR → Prop
  | .nx ρ S' => ∀ m' H' σ', Ge m H m' H' → RS K m' B H' S' → REs K m' B H' ρ σ' → E.nx σ' H'
  | .rt d S' => ∀ m' H' v, Ge m H m' H' → RS K m' B H' S' → RD K m' B H' d v → E.rt v H'
  | .bk ρ S' => ∀ m' H' σ', Ge m H m' H' → RS K m' B H' S' → REs K m' B H' ρ σ' → E.bk σ' H'
  | .ct ρ S' => ∀ m' H' σ', Ge m H m' H' → RS K m' B H' S' → REs K m' B H' ρ σ' → E.ct σ' H'
  | .exc ρ c d S' => ∀ m' H' σ' x v, Ge m H m' H' → RS K m' B H' S' → REs K m' B H' ρ σ' → H' x = some (.xd [("at", v)]) → RD K m' B H' d v → W (.ref c) (some x) σ' H'
  | .bad => False
theorem PostS.ge {K : PySem.W.Frag} {m m' B : List Addr} {H H' : Hp} {W : WX} {E : Ends} {r : SR} (h : PostS K m B H W E r) (g : Ge m H m' H') : PostS K m' B H' W E r := by
  cases r with
  | nx ρ S => exact fun m2 H2 σ g2 => h m2 H2 σ (g.trans g2)
  | rt d S => exact fun m2 H2 v g2 => h m2 H2 v (g.trans g2)
  | bk ρ S => exact fun m2 H2 σ g2 => h m2 H2 σ (g.trans g2)
  | ct ρ S => exact fun m2 H2 σ g2 => h m2 H2 σ (g.trans g2)
  | exc ρ c d S => exact fun m2 H2 σ x v g2 => h m2 H2 σ x v (g.trans g2)
  | bad => exact h
/-- the reading of a statement -/
def tS (W : WX) (K : PySem.W.Frag) (den : DS) : TS := fun E σ H => ∃ m B ρ S, RS K m B H S ∧ REs K m B H ρ σ ∧ PostS K m B H W E (den ρ S)
def ZS (X : Cx) (st : Stmt) (den : DS) : Prop := ∀ W, Takes X W → PS X st (tS W X.K den)
def ZB (X : Cx) (sts : List Stmt) (den : DS) : Prop := ∀ W, Takes X W → PSs X sts (tS W X.K den)
/-- an expression ahead of what follows -/
theorem tE.takeS {W : WX} {K : PySem.W.Frag} {da : DE} {f : D → Sto → SR} {σ : L2.St} {H : Hp} {Q' : VK} {m B : List Addr} {ρ : Env} {S : Sto} {E : Ends} (r : RS K m B H S) (e : REs K m B H ρ σ)
    (h : PostS K m B H W E ((da ρ S).to ρ f))
    (k : ∀ d S1 m1 H1 v, Ge m H m1 H1 → RS K m1 B H1 S1 → REs K m1 B H1 ρ σ → RD K m1 B H1 d v → PostS K m1 B H1 W E (f d S1) → Q' v H1) : tE W K da σ H Q' := by
  refine ⟨m, B, ρ, S, r, e, ?_⟩
  cases hd : da ρ S with
  | ok d S1 =>
    rw [hd] at h
    exact fun m1 H1 g1 r1 v rv => k d S1 m1 H1 v g1 r1 (e.mono g1.tr) rv (PostS.ge h g1)
  | exc c d S1 =>
    rw [hd] at h
    exact fun m1 H1 x v g1 r1 hx rv => h m1 H1 σ x v g1 r1 (e.mono g1.tr) hx rv
  | bad => rw [hd] at h; exact h
theorem tTe.takeS {W : WX} {K : PySem.W.Frag} {da : DT} {f : Bool → Sto → SR} {σ : L2.St} {H : Hp} {Q' : Bool → Hp → Prop} {m B : List Addr} {ρ : Env} {S : Sto} {E : Ends} (r : RS K m B H S) (e : REs K m B H ρ σ)
    (h : PostS K m B H W E ((da ρ S).to ρ f))
    (k : ∀ d S1 m1 H1, Ge m H m1 H1 → RS K m1 B H1 S1 → REs K m1 B H1 ρ σ → PostS K m1 B H1 W E (f d S1) → Q' d H1) : tTe W K da σ H Q' := by
  refine ⟨m, B, ρ, S, r, e, ?_⟩
  cases hd : da ρ S with
  | ok d S1 =>
    rw [hd] at h
    exact fun m1 H1 g1 r1 => k d S1 m1 H1 g1 r1 (e.mono g1.tr) (PostS.ge h g1)
  | exc c d S1 =>
    rw [hd] at h
    exact fun m1 H1 x v g1 r1 hx rv => h m1 H1 σ x v g1 r1 (e.mono g1.tr) hx rv
  | bad => rw [hd] at h; exact h
def sNx : DS := fun ρ S => .nx ρ S
def sSeq (a b : DS) : DS := fun ρ S => (a ρ S).then b
def sDrop (a : DE) : DS := fun ρ S => (a ρ S).to ρ fun _ S1 => .nx ρ S1
def sRet (a : DE) : DS := fun ρ S => (a ρ S).to ρ fun d S1 => .rt d S1
def sRetN : DS := fun _ S => .rt .non S
def sBrk : DS := fun ρ S => .bk ρ S
def sCont : DS := fun ρ S => .ct ρ S
def sIf (t : DT) (a b : DS) : DS := fun ρ S => (t ρ S).to ρ fun k S1 => if k = true then a ρ S1 else b ρ S1
section
variable {X : Cx} {pos : Pos} {e c : Expr} {st : Stmt} {rest as bs : List Stmt} {de : DE} {dt : DT} {da db : DS}
theorem zb_nil : ZB X [] sNx := fun W tk => pss_weak pss_nil fun E σ H ⟨m, B, ρ, S, rs, e, p⟩ => p m H σ (.refl m H) rs e
theorem zb_cons (h1 : ZS X st da) (h2 : ZB X rest db) : ZB X (st :: rest) (sSeq da db) := fun W tk => pss_weak (pss_cons (h1 W tk) (h2 W tk)) fun E σ H ⟨m, B, ρ, S, rs, e, p⟩ => by
  refine ⟨m, B, ρ, S, rs, e, ?_⟩
  unfold sSeq at p
  cases hd : da ρ S with
  | nx ρ' S' =>
    rw [hd] at p
    exact fun m1 H1 σ1 g1 r1 e1 => ⟨m1, B, ρ', S', r1, e1, PostS.ge p g1⟩
  | rt d S' => rw [hd] at p; exact p
  | bk ρ' S' => rw [hd] at p; exact p
  | ct ρ' S' => rw [hd] at p; exact p
  | exc ρ' c d S' => rw [hd] at p; exact p
  | bad => rw [hd] at p; exact p
theorem zb_one (h1 : ZS X st da) : ZB X [st] da := fun W tk => pss_one (h1 W tk)
theorem zs_pass : ZS X (.Pass pos) sNx := fun W tk => ps_weak ps_pass fun E σ H ⟨m, B, ρ, S, rs, e, p⟩ => p m H σ (.refl m H) rs e
theorem zs_brk : ZS X (.Break pos) sBrk := fun W tk => ps_weak ps_break fun E σ H ⟨m, B, ρ, S, rs, e, p⟩ => p m H σ (.refl m H) rs e
theorem zs_cont : ZS X (.Continue pos) sCont := fun W tk => ps_weak ps_continue fun E σ H ⟨m, B, ρ, S, rs, e, p⟩ => p m H σ (.refl m H) rs e
theorem zs_drop (h : ZE X e de) (hs : swapsWith e none pos.line X.env = pure false := by rfl) : ZS X (.Expr e pos) (sDrop de) := fun W tk => ps_weak (ps_expr (h W tk) hs) fun E σ H ⟨m, B, ρ, S, rs, e, p⟩ =>
  tE.takeS rs e p fun d S1 m1 H1 v g1 r1 e1 rd p1 => p1 m1 H1 σ (.refl _ _) r1 e1
theorem zs_ret (h : ZE X e de) : ZS X (.Return (some e) pos) (sRet de) := fun W tk => ps_weak (ps_ret (h W tk)) fun E σ H ⟨m, B, ρ, S, rs, e, p⟩ =>
  tE.takeS rs e p fun d S1 m1 H1 v g1 r1 e1 rd p1 => p1 m1 H1 v (.refl _ _) r1 rd
theorem zs_retN : ZS X (.Return none pos) sRetN := fun W tk => ps_weak ps_retN fun E σ H ⟨m, B, ρ, S, rs, e, p⟩ => p m H .non (.refl _ _) rs RDn
theorem zs_if (hc : ZT X c dt) (ha : ZB X as da) (hb : ZB X bs db) : ZS X (.If c as bs pos) (sIf dt da db) := fun W tk => ps_weak (ps_if (hc W tk) (ha W tk) (hb W tk)) fun E σ H ⟨m, B, ρ, S, rs, e, p⟩ =>
  tTe.takeS rs e p fun b S1 m1 H1 g1 r1 e1 p1 => by
    cases b with
    | true => exact ⟨m1, B, ρ, S1, r1, e1, p1⟩
    | false => exact ⟨m1, B, ρ, S1, r1, e1, p1⟩
end

/-! ### targets -/
inductive Tg where
  | nm (i : Nat) | tp (ts : List Tg)
mutual
def Tg.asg (S : Sto) : Tg → D → Env → Option Env
  | .nm i, d, ρ => some (ρ.set i (some d))
  | .tp ts, d, ρ => match seqOf S d with
    | some ds => Tg.asgs S ts ds ρ
    | none => none
def Tg.asgs (S : Sto) : List Tg → List D → Env → Option Env
  | [], [], ρ => some ρ
  | t :: ts, d :: ds, ρ => (Tg.asg S t d ρ).bind fun ρ' => Tg.asgs S ts ds ρ'
  | _, _, _ => none
end
mutual
def Tg.ix : Tg → List Nat
  | .nm i => [i]
  | .tp ts => Tg.ixs ts
def Tg.ixs : List Tg → List Nat
  | [] => []
  | t :: ts => Tg.ix t ++ Tg.ixs ts
end
/-- the same but for the slots at is -/
def Sam (is : List Nat) (σ σ' : L2.St) : Prop := ∀ vs : List Nat, (∀ i ∈ is, i ∈ vs) → wipe σ' vs = wipe σ vs
theorem Sam.refl {is : List Nat} {σ : L2.St} : Sam is σ σ := fun _ _ => rfl
theorem Sam.trans {is js : List Nat} {σ σ1 σ2 : L2.St} (a : Sam is σ σ1) (b : Sam js σ1 σ2) : Sam (is ++ js) σ σ2 := fun vs h => (b vs fun i hi => h i (List.mem_append_right _ hi)).trans (a vs fun i hi => h i (List.mem_append_left _ hi))
theorem wipe_set {σ : L2.St} {i : Nat} {x : Option V} : ∀ {vs : List Nat}, wipe (σ.set i x) vs = (wipe σ vs).set i (if i ∈ vs then none else x) ∨ (i ∈ vs ∧ wipe (σ.set i x) vs = wipe σ vs)
  | [] => .inl (by simp [wipe])
  | v :: vs => by
    by_cases hv : v = i
    · subst hv
      refine .inr ⟨List.mem_cons_self .., ?_⟩
      unfold wipe
      rcases wipe_set (σ := σ) (i := v) (x := x) (vs := vs) with h | ⟨_, h⟩
      · rw [h, List.set_set]
      · rw [h]
    · rcases wipe_set (σ := σ) (i := i) (x := x) (vs := vs) with h | ⟨hm, h⟩
      · by_cases hi : i ∈ vs
        · refine .inr ⟨List.mem_cons_of_mem _ hi, ?_⟩
          unfold wipe
          have : wipe (σ.set i x) vs = wipe σ vs := by
            rw [h, if_pos hi]
            exact wipe_in hi
          rw [this]
        · refine .inl ?_
          unfold wipe
          rw [h, if_neg hi, if_neg (by simp only [List.mem_cons, not_or]; exact ⟨Ne.symm hv, hi⟩), List.set_comm _ _ (Ne.symm hv)]
      · refine .inr ⟨List.mem_cons_of_mem _ hm, ?_⟩
        unfold wipe
        rw [h]
where
  wipe_in {σ : L2.St} {i : Nat} : ∀ {vs : List Nat}, i ∈ vs → (wipe σ vs).set i none = wipe σ vs
  | [], h => by simp at h
  | v :: vs, h => by
    unfold wipe
    by_cases hv : v = i
    · subst hv
      rw [List.set_set]
    · have hi : i ∈ vs := by
        rcases List.mem_cons.mp h with e | h
        · exact absurd e.symm hv
        · exact h
      rw [List.set_comm _ _ hv, wipe_in hi]
theorem Sam.set {σ : L2.St} {i : Nat} {x : Option V} : Sam [i] σ (σ.set i x) := fun vs h => by
  have hi : i ∈ vs := h i (List.mem_cons_self ..)
  rcases wipe_set (σ := σ) (i := i) (x := x) (vs := vs) with q | ⟨_, q⟩
  · rw [q, if_pos hi, wipe_set.wipe_in hi]
  · exact q
theorem wipe_wipe {σ : L2.St} : ∀ vs : List Nat, wipe (wipe σ vs) vs = wipe σ vs := fun vs => go vs vs fun _ h => h
where
  go {σ : L2.St} (ws : List Nat) : ∀ vs : List Nat, (∀ i ∈ vs, i ∈ ws) → wipe (wipe σ ws) vs = wipe σ ws
  | [], _ => rfl
  | v :: vs, h => by
    show (wipe (wipe σ ws) vs).set v none = wipe σ ws
    rw [go ws vs fun i hi => h i (List.mem_cons_of_mem _ hi)]
    exact wipe_set.wipe_in (h v (List.mem_cons_self ..))
/-- the reading of a target -/
def gT (K : PySem.W.Frag) (tg : Tg) : TG := fun v σ H Q => ∃ m B S d ρ ρ', RS K m B H S ∧ RD K m B H d v ∧ REs K m B H ρ σ ∧ Tg.asg S tg d ρ = some ρ' ∧ ∀ σ', REs K m B H ρ' σ' → Sam tg.ix σ σ' → Q σ' H
def gTs (K : PySem.W.Frag) (ts : List Tg) : TGs := fun vs σ H Q => ∃ m B S ds ρ ρ', RS K m B H S ∧ RDs K m B H ds vs ∧ REs K m B H ρ σ ∧ Tg.asgs S ts ds ρ = some ρ' ∧ ∀ σ', REs K m B H ρ' σ' → Sam (Tg.ixs ts) σ σ' → Q σ' H
def ZG (X : Cx) (target : Expr) (tg : Tg) : Prop := PG X target (gT X.K tg)
def ZGs (X : Cx) (es : List Expr) (ts : List Tg) : Prop := PGs X es (gTs X.K ts)
theorem pgs_weak {X : Cx} {e : List Expr} {t t' : TGs} (h : PGs X e t) (i : ∀ v σ H Q, t' v σ H Q → t v σ H Q) : PGs X e t' := ⟨fun pins s σ H x u Q I r q => h.run pins s σ H x u Q I r (i _ _ _ _ q)⟩
theorem Tg.asgs_len {S : Sto} : ∀ {ts : List Tg} {ds : List D} {ρ ρ' : Env}, Tg.asgs S ts ds ρ = some ρ' → ts.length = ds.length
  | [], [], _, _, _ => rfl
  | t :: ts, d :: ds, _, _, h => by
    simp only [Tg.asgs, Option.bind_eq_some_iff] at h
    obtain ⟨_, _, h⟩ := h
    simp [Tg.asgs_len h]
  | [], _ :: _, _, _, h => by simp [Tg.asgs] at h
  | _ :: _, [], _, _, h => by simp [Tg.asgs] at h
section
variable {X : Cx} {pos : Pos} {e : Expr} {es : List Expr} {t : Tg} {ts : List Tg}
theorem zg_nm {i : Nat} {x : Str} (hN : X.N.Nodup) (hi : X.N[i]? = some x := by rfl) (hx : Loc X.env.scope x := by first | exact Or.inl rfl | exact Or.inr rfl) (hf : X.fn x = true ∨ X.env.scope.names.lookup x = some .local := by first | exact .inl rfl | exact .inr rfl | assumption) : ZG X (.Name x pos) (.nm i) :=
  pg_weak (pg_name hN hi hx hf) fun v σ H Q ⟨m, B, S, d, ρ, ρ', rs, rd, e, ha, k⟩ => by
    simp only [Tg.asg] at ha
    cases ha
    exact k _ (e.set i rd) Sam.set
theorem zgs_nil : ZGs X [] [] := pgs_weak pgs_nil fun vs σ H Q ⟨m, B, S, ds, ρ, ρ', rs, rd, e, ha, k⟩ => by
  cases ds with
  | nil =>
    unfold RDs at rd
    simp only [Tg.asgs] at ha
    cases ha
    exact ⟨rd, k σ e Sam.refl⟩
  | cons d ds => simp [Tg.asgs] at ha
theorem zgs_cons (h1 : ZG X e t) (h2 : ZGs X es ts) (hs : (assignEach (e :: es) X.env).map (·.2) = assign e X.env :: (assignEach es X.env).map (·.2) := by rfl) : ZGs X (e :: es) (t :: ts) :=
  pgs_weak (pgs_cons h1 h2 hs) fun vs σ H Q ⟨m, B, S, ds, ρ, ρ', rs, rd, e, ha, k⟩ => by
    cases ds with
    | nil => simp [Tg.asgs] at ha
    | cons d ds =>
      unfold RDs at rd
      obtain ⟨x, r, rfl, h1, h2⟩ := rd
      simp only [Tg.asgs, Option.bind_eq_some_iff] at ha
      obtain ⟨ρ1, ha1, ha2⟩ := ha
      exact ⟨x, r, rfl, m, B, S, d, ρ, ρ1, rs, h1, e, ha1, fun σ1 e1 s1 => ⟨m, B, S, ds, ρ1, ρ', rs, h2, e1, ha2, fun σ2 e2 s2 => k σ2 e2 (s1.trans s2)⟩⟩
theorem zg_tp {k : Nat} (hc : X.calm = true) (h : ZGs X es ts) (hn : (assignEach es X.env).length = ts.length := by rfl) (hst : (assignEach es X.env).findIdx? (·.1) = none := by rfl) : ZG X (.Tuple es k pos) (.tp ts) :=
  ⟨fun pins s σ H v u Q I rv ⟨m, B, S, d, ρ, ρ', rs, rd, e, ha, k⟩ => by
    simp only [Tg.asg] at ha
    split at ha
    · rename_i ds hd
      obtain ⟨a, vs, rfl, sq, r⟩ := seqOf_ok rs rd hd
      have hl : vs.length = ts.length := by rw [← r.len]; exact (Tg.asgs_len ha).symm
      rcases sq with sq | sq
      · exact (pg_unl hc h hn hst).run pins s σ H _ u Q I rv ⟨a, vs, rfl, sq, hl, m, B, S, ds, ρ, ρ', rs, r, e, ha, fun σ' e' s' => k σ' e' s'⟩
      · exact (pg_tup hc h hn hst).run pins s σ H _ u Q I rv ⟨a, vs, rfl, sq, hl, m, B, S, ds, ρ, ρ', rs, r, e, ha, fun σ' e' s' => k σ' e' s'⟩
    · cases ha⟩
end
/-- target = value -/
def sAsg (tg : Tg) (a : DE) : DS := fun ρ S => (a ρ S).to ρ fun d S1 => match Tg.asg S1 tg d ρ with
  | some ρ' => .nx ρ' S1
  | none => .bad
/-- x = value -/
def sSet (i : Nat) (a : DE) : DS := fun ρ S => (a ρ S).to ρ fun d S1 => .nx (ρ.set i (some d)) S1
section
variable {X : Cx} {pos : Pos} {e tg : Expr} {t : Tg} {de : DE}
theorem zs_asg (he : ZE X e de) (hg : ZG X tg t) (hs : swapsWithSole [tg] e pos.line X.env = pure false := by rfl) (hw : swappedStores [tg] e X.env = pure none := by rfl) (ha : (assignEach [tg] X.env).map (·.2) = [assign tg X.env] := by rfl) : ZS X (.Assign [tg] e pos) (sAsg t de) := fun W tk => ps_weak (ps_asg (he W tk) hg hs hw ha) fun E σ H ⟨m, B, ρ, S, rs, e, p⟩ =>
  tE.takeS rs e p fun d S1 m1 H1 v g1 r1 e1 rd p1 => by
    cases ha : Tg.asg S1 t d ρ with
    | none => rw [ha] at p1; exact p1.elim
    | some ρ' =>
      rw [ha] at p1
      exact ⟨m1, B, S1, d, ρ, ρ', r1, rd, e1, ha, fun σ' e' _ => p1 m1 H1 σ' (.refl _ _) r1 e'⟩
theorem zs_set {i : Nat} {x : Str} {pos' : Pos} (hN : X.N.Nodup) (he : ZE X e de) (hi : X.N[i]? = some x := by rfl) (hx : Loc X.env.scope x := by first | exact Or.inl rfl | exact Or.inr rfl) (hs : swapsWith e (some (.Name x pos')) pos.line X.env = pure false := by rfl)
    (hf : X.fn x = true ∨ X.env.scope.names.lookup x = some .local := by first | exact .inl rfl | exact .inr rfl | assumption) : ZS X (.Assign [.Name x pos'] e pos) (sSet i de) := fun W tk => ps_weak (ps_set hN hi hx (he W tk) hs hf) fun E σ H ⟨m, B, ρ, S, rs, e, p⟩ =>
  tE.takeS rs e p fun d S1 m1 H1 v g1 r1 e1 rd p1 => p1 m1 H1 _ (.refl _ _) r1 (e1.set i rd)
/-- a, b = e1, e2 -/
def sPar (i j : Nat) (a b : DE) : DS := fun ρ S => (a ρ S).to ρ fun d S1 => (b ρ S1).to ρ fun e S2 => .nx ((ρ.set i (some d)).set j (some e)) S2
end
end Z
namespace Z
open PySem L2

/-! ### while -/
def whileI (t : DT) (b : DS) : Nat → DS
  | 0 => fun _ _ => .bad
  | n + 1 => fun ρ S => (t ρ S).to ρ fun k S1 => if k = true then match b ρ S1 with
    | .nx ρ' S' => whileI t b n ρ' S'
    | .ct ρ' S' => whileI t b n ρ' S'
    | .bk ρ' S' => .nx ρ' S'
    | r => r else .nx ρ S1
section
variable {X : Cx} {pos : Pos} {c : Expr} {body : List Stmt} {dt : DT} {db : DS}
theorem zs_while (n : Nat) (hp : PassesOwn (model X.prog X.w) X.A X.env X.xe) (hc : ZT X c dt) (hb : ZB X body db) : ZS X (.While c body [] pos) (whileI dt db n) := fun W tk => ps_weak (ps_while hp (hc W tk) (hb W tk)) fun E σ H ⟨m, B, ρ, S, rs, e, p⟩ => by
  refine ⟨fun n σ H => ∃ m B ρ S, RS X.K m B H S ∧ REs X.K m B H ρ σ ∧ PostS X.K m B H W E (whileI dt db n ρ S), ⟨n, m, B, ρ, S, rs, e, p⟩, ?_⟩
  rintro n σ H ⟨m, B, ρ, S, rs, e, p⟩
  cases n with
  | zero => exact (show False from p).elim
  | succ n =>
    refine tTe.takeS rs e p fun k S1 m1 H1 g1 r1 e1 p1 => ?_
    cases k with
    | false => exact p1 m1 H1 σ (.refl _ _) r1 e1
    | true =>
      refine ⟨fun σ H => ∃ m B ρ S, RS X.K m B H S ∧ REs X.K m B H ρ σ ∧ PostS X.K m B H W E (whileI dt db n ρ S), fun σ' H' h => ⟨n, Nat.lt_succ_self _, h⟩, m1, B, ρ, S1, r1, e1, ?_⟩
      have p2 : PostS X.K m1 B H1 W E (match db ρ S1 with
        | .nx ρ' S' => whileI dt db n ρ' S'
        | .ct ρ' S' => whileI dt db n ρ' S'
        | .bk ρ' S' => .nx ρ' S'
        | r => r) := p1
      cases hd : db ρ S1 with
      | nx ρ' S' => rw [hd] at p2; exact fun m2 H2 σ2 g2 r2 e2 => ⟨m2, B, ρ', S', r2, e2, PostS.ge p2 g2⟩
      | ct ρ' S' => rw [hd] at p2; exact fun m2 H2 σ2 g2 r2 e2 => ⟨m2, B, ρ', S', r2, e2, PostS.ge p2 g2⟩
      | bk ρ' S' => rw [hd] at p2; exact p2
      | rt d S' => rw [hd] at p2; exact p2
      | exc ρ' c d S' => rw [hd] at p2; exact p2
      | bad => rw [hd] at p2; exact p2
end

/-! ### what is walked -/
/-- J gives ds, one behind another, as long as the store is so -/
structure JY (K : PySem.W.Frag) (J : It) (m0 B0 : List Addr) (H0 : Hp) (ds : List D) (chk : Sto → Prop) : Prop where
  go : ∀ (i : Nat) m B H S, Tr m0 B0 H0 m B H → RS K m B H S → chk S → i < ds.length → J.go i H
  yl : ∀ (i : Nat) m B H S x H' d, Tr m0 B0 H0 m B H → RS K m B H S → chk S → ds[i]? = some d → J.yld i H x H' → (∀ b o, H b = some o → H' b = some o) ∧ RD K m B H' d x
  st : ∀ (i : Nat) m B H S, Tr m0 B0 H0 m B H → RS K m B H S → chk S → ds.length ≤ i → J.stop i H
abbrev DI := Env → Sto → R (List D × (Sto → Prop))
def tI (W : WX) (K : PySem.W.Frag) (den : DI) : TI := fun σ H Q => ∃ m B ρ S, RS K m B H S ∧ REs K m B H ρ σ ∧ Post K m B H (fun c x H' => W c x σ H') (fun p S' m' H' => p.2 S' → ∀ J, JY K J m' B H' p.1 p.2 → Q J H') (den ρ S)
def ZI (X : Cx) (tg iter : Expr) (den : DI) : Prop := ∀ W, Takes X W → PI X tg iter (tI W X.K den)
theorem Tr.refl {m B : List Addr} {H : Hp} : Tr m B H m B H := ⟨fun _ _ h => h, fun _ _ h1 h2 h3 _ => ⟨h1, h2, h3⟩⟩
theorem Tr.trans {m m1 m2 B B1 B2 : List Addr} {H H1 H2 : Hp} (a : Tr m B H m1 B1 H1) (b : Tr m1 B1 H1 m2 B2 H2) : Tr m B H m2 B2 H2 :=
  ⟨fun n x h => b.at_ n x (a.at_ n x h), fun x u h1 h2 h3 h4 => by
    obtain ⟨q1, q2, q3⟩ := a.rd x u h1 h2 h3 h4
    exact b.rd x u q1 q2 q3 h4⟩
section
variable {K : PySem.W.Frag} {m0 B0 : List Addr} {H0 : Hp} {ds : List D}
theorem jy_list {a : Addr} {vs : List V} (hs : FL K m0 B0 H0 a vs) (r : RDs K m0 B0 H0 ds vs) : JY K (Itl K a) m0 B0 H0 ds fun _ => True where
  go := fun i m B H S t rs _ hi => by
    have q := (hs.mono t).sq
    exact ⟨vs, vs[i]'(by rw [← r.len]; exact hi), q, by simp [show i < vs.length by rw [← r.len]; exact hi]⟩
  yl := fun i m B H S x H' d t rs _ hd y => by
    obtain ⟨rfl, y⟩ := y
    refine ⟨fun _ _ h => h, ?_⟩
    obtain ⟨v, hv, rv⟩ := (RDs.mono t _ _ r).get hd
    have := y vs (hs.mono t).sq
    rw [hv] at this
    cases this
    exact rv
  st := fun i m B H S t rs _ hi => ⟨vs, (hs.mono t).sq, by rw [← r.len]; exact hi⟩
theorem jy_tup {a : Addr} {vs : List V} (hs : FT K m0 B0 H0 a vs) (r : RDs K m0 B0 H0 ds vs) : JY K (Itt K a) m0 B0 H0 ds fun _ => True where
  go := fun i m B H S t rs _ hi => by
    have q := (hs.mono t).sq
    exact ⟨vs, vs[i]'(by rw [← r.len]; exact hi), q, by simp [show i < vs.length by rw [← r.len]; exact hi]⟩
  yl := fun i m B H S x H' d t rs _ hd y => by
    obtain ⟨rfl, y⟩ := y
    refine ⟨fun _ _ h => h, ?_⟩
    obtain ⟨v, hv, rv⟩ := (RDs.mono t _ _ r).get hd
    have := y vs (hs.mono t).sq
    rw [hv] at this
    cases this
    exact rv
  st := fun i m B H S t rs _ hi => ⟨vs, (hs.mono t).sq, by rw [← r.len]; exact hi⟩
theorem jy_ref {n : Nat} {a : Addr} (hn : m0[n]? = some a) : JY K (Itl K a) m0 B0 H0 ds fun S => S[n]? = some (.lst ds) where
  go := fun i m B H S t rs hc hi => by
    obtain ⟨vs, ea, r⟩ := rs.ob n a _ (t.at_ _ _ hn) hc
    exact ⟨vs, vs[i]'(by rw [← r.len]; exact hi), SqL.of ea, by simp [show i < vs.length by rw [← r.len]; exact hi]⟩
  yl := fun i m B H S x H' d t rs hc hd y => by
    obtain ⟨rfl, y⟩ := y
    refine ⟨fun _ _ h => h, ?_⟩
    obtain ⟨vs, ea, r⟩ := rs.ob n a _ (t.at_ _ _ hn) hc
    obtain ⟨v, hv, rv⟩ := r.get hd
    have := y vs (SqL.of ea)
    rw [hv] at this
    cases this
    exact rv
  st := fun i m B H S t rs hc hi => by
    obtain ⟨vs, ea, r⟩ := rs.ob n a _ (t.at_ _ _ hn) hc
    exact ⟨vs, SqL.of ea, by rw [← r.len]; exact hi⟩
def iRow (lo : Int) (n : Nat) : List D := (List.range n).map fun i => .int (lo + (i : Nat))
theorem iRow_len (lo : Int) (n : Nat) : (iRow lo n).length = n := by simp [iRow]
theorem iRow_get (lo : Int) (n i : Nat) (h : i < n) : (iRow lo n)[i]? = some (.int (lo + (i : Nat))) := by simp [iRow, h]
theorem jy_range {lo : Int} {n : Nat} : JY K (Itr lo n) m0 B0 H0 (iRow lo n) fun _ => True where
  go := fun i m B H S t rs _ hi => by rw [iRow_len] at hi; exact hi
  yl := fun i m B H S x H' d t rs _ hd y => by
    obtain ⟨rfl, rfl⟩ := y
    refine ⟨fun _ _ h => h, ?_⟩
    have hi := (List.getElem?_eq_some_iff.mp hd).1
    rw [iRow_len] at hi
    rw [iRow_get lo n i hi] at hd
    cases hd
    exact RDi _
  st := fun i m B H S t rs _ hi => by rw [iRow_len] at hi; exact hi
/-- the signs of a text -/
def signs (s : Str) : List D := s.cps.toList.map fun c => .str ⟨#[c]⟩
theorem jy_str {s : Str} : JY K (Its s) m0 B0 H0 (signs s) fun _ => True where
  go := fun i m B H S t rs _ hi => by simp [signs] at hi; exact hi
  yl := fun i m B H S x H' d t rs _ hd y => by
    obtain ⟨rfl, c, hc, rfl⟩ := y
    refine ⟨fun _ _ h => h, ?_⟩
    simp [signs] at hd
    obtain ⟨c', hc', rfl⟩ := hd
    rw [hc] at hc'
    cases hc'
    exact RDst _
  st := fun i m B H S t rs _ hi => by simp [signs] at hi; exact hi
end
/-- over a list, a tuple, a text -/
def iSeq (a : DE) : DI := fun ρ S => (a ρ S).bind fun d S1 => match d with
  | .tup ds => .ok (ds, fun _ => True) S1
  | .lst ds => .ok (ds, fun _ => True) S1
  | .scr ds => .ok (ds, fun _ => True) S1
  | .str s => .ok (signs s, fun _ => True) S1
  | .ref n => match S1[n]? with
    | some (.lst ds) => .ok (ds, fun S' => S'[n]? = some (.lst ds)) S1
    | _ => .bad
  | _ => .bad
/-- range(n), range(a, b) -/
def rgOk (i : Int) : Bool := Nat.blt i.natAbs 4611686018427387904
def iR1 (a : DE) : DI := fun ρ S => (a ρ S).bind fun d S1 => match d with
  | .int n => if rgOk n = true then .ok (iRow 0 n.toNat, fun _ => True) S1 else .bad
  | _ => .bad
def iR2 (a b : DE) : DI := fun ρ S => (a ρ S).bind fun d S1 => (b ρ S1).bind fun e S2 => match d, e with
  | .int i, .int j => if rgOk i = true ∧ rgOk j = true then .ok (iRow i (j - i).toNat, fun _ => True) S2 else .bad
  | _, _ => .bad
theorem rgOk_ok {i : Int} (h : rgOk i = true) : -(2 ^ 62) ≤ i ∧ i < 2 ^ 62 := by
  have q : i.natAbs < 4611686018427387904 := Nat.blt_eq.mp h
  omega
def fR1 : List D → Sto → R (List D × (Sto → Prop))
  | [.int n], S1 => if rgOk n = true then .ok (iRow 0 n.toNat, fun _ => True) S1 else .bad
  | _, _ => .bad
def fR2 : List D → Sto → R (List D × (Sto → Prop))
  | [.int i, .int j], S1 => if rgOk i = true ∧ rgOk j = true then .ok (iRow i (j - i).toNat, fun _ => True) S1 else .bad
  | _, _ => .bad
section
variable {X : Cx} {tg e e2 : Expr} {da db : DE} {p pos : Pos}
theorem zi_seq (h : ZE X e da) : ZI X tg e (iSeq da) := fun W tk => ⟨fun pins s σ H Q I ⟨m, B, ρ, S, rs, e, p⟩ => by
  have key : ∀ {te : TE}, True := fun {_} => trivial
  unfold iSeq at p
  cases hd : da ρ S with
  | ok d S1 =>
    rw [hd] at p
    simp only [R.bind_ok] at p
    have ev : ∀ {Q' : VK}, (∀ m1 H1 v, Ge m H m1 H1 → RS X.K m1 B H1 S1 → RD X.K m1 B H1 d v → Q' v H1) → tE W X.K da σ H Q' := fun {Q'} k => ⟨m, B, ρ, S, rs, e, by rw [hd]; exact fun m1 H1 g1 r1 v rv => k m1 H1 v g1 r1 rv⟩
    cases d <;> try exact p.elim
    · rename_i s'
      refine (pi_str (tg := tg) (h W tk)).run pins s σ H Q I (ev fun m1 H1 v g1 r1 rv => ?_)
      unfold RD at rv
      exact ⟨s', rv, p m1 H1 g1 r1 trivial _ jy_str⟩
    · rename_i ds
      refine (pi_tup (tg := tg) (h W tk)).run pins s σ H Q I (ev fun m1 H1 v g1 r1 rv => ?_)
      unfold RD at rv
      obtain ⟨a, vs, rfl, f, r⟩ := rv
      exact ⟨a, rfl, ⟨vs, f.sq⟩, p m1 H1 g1 r1 trivial _ (jy_tup f r)⟩
    · rename_i ds
      refine (pi_list (tg := tg) (h W tk)).run pins s σ H Q I (ev fun m1 H1 v g1 r1 rv => ?_)
      unfold RD at rv
      obtain ⟨a, vs, rfl, f, r⟩ := rv
      exact ⟨a, rfl, ⟨vs, f.sq⟩, p m1 H1 g1 r1 trivial _ (jy_list f.fl r)⟩
    · rename_i ds
      refine (pi_list (tg := tg) (h W tk)).run pins s σ H Q I (ev fun m1 H1 v g1 r1 rv => ?_)
      unfold RD at rv
      obtain ⟨a, vs, rfl, f, r⟩ := rv
      exact ⟨a, rfl, ⟨vs, f.sq⟩, p m1 H1 g1 r1 trivial _ (jy_list f r)⟩
    · rename_i n
      simp only at p
      split at p
      · rename_i ds hn
        refine (pi_list (tg := tg) (h W tk)).run pins s σ H Q I (ev fun m1 H1 v g1 r1 rv => ?_)
        unfold RD at rv
        obtain ⟨a, rfl, q⟩ := rv
        obtain ⟨vs, ea, r⟩ := r1.ob n a _ q hn
        exact ⟨a, rfl, ⟨vs, SqL.of ea⟩, p m1 H1 g1 r1 hn _ (jy_ref q)⟩
      · exact p.elim
  | exc c d S1 =>
    rw [hd] at p
    refine (pi_tup (tg := tg) (h W tk)).run pins s σ H Q I ⟨m, B, ρ, S, rs, e, by rw [hd]; exact p⟩
  | bad => rw [hd] at p; exact p.elim⟩
theorem zi_r1 (hm : X.mg "range" = none) (ha : ZA X [e] (aC da aN)) (hg : Gl X "range" := by rfl) (hs : starEach [e] X.env = [(false, eval e X.env)] := by rfl) : ZI X tg (.Call (.Name "range" p) [e] [] pos) (iR1 da) := fun W tk => pi_weak (pi_range1 hg hm (ha W tk) hs) fun σ H Q ⟨m, B, ρ, S, rs, e, p⟩ => by
  have p' : Post X.K m B H (fun c x H' => W c x σ H') (fun p S' m' H' => p.2 S' → ∀ J, JY X.K J m' B H' p.1 p.2 → Q J H') ((aC da aN ρ S).bind fR1) := by
    unfold iR1 at p
    unfold aC aN
    cases hd : da ρ S with
    | ok d S1 => rw [hd] at p; cases d <;> exact p
    | exc c d S1 => rw [hd] at p; exact p
    | bad => rw [hd] at p; exact p
  refine tAr.take rs e p' fun ds S1 m1 H1 vs g1 r1 e1 rds p1 => ?_
  unfold fR1 at p1
  split at p1
  · rename_i n
    split at p1
    · rename_i hn
      obtain ⟨v, rfl, rv⟩ := rds.one
      unfold RD at rv
      subst rv
      exact ⟨n, rfl, (rgOk_ok hn).1, (rgOk_ok hn).2, (p1.now r1) trivial _ jy_range⟩
    · exact p1.elim
  · exact p1.elim
theorem zi_r2 (hm : X.mg "range" = none) (ha : ZA X [e, e2] (aC da (aC db aN))) (hg : Gl X "range" := by rfl) (hs : starEach [e, e2] X.env = [(false, eval e X.env), (false, eval e2 X.env)] := by rfl) (hs2 : starEach [e2] X.env = [(false, eval e2 X.env)] := by rfl) : ZI X tg (.Call (.Name "range" p) [e, e2] [] pos) (iR2 da db) := fun W tk => pi_weak (pi_range2 hg hm (ha W tk) hs hs2) fun σ H Q ⟨m, B, ρ, S, rs, e, p⟩ => by
  have p' : Post X.K m B H (fun c x H' => W c x σ H') (fun p S' m' H' => p.2 S' → ∀ J, JY X.K J m' B H' p.1 p.2 → Q J H') ((aC da (aC db aN) ρ S).bind fR2) := by
    unfold iR2 at p
    unfold aC aN
    cases hd : da ρ S with
    | ok d S1 =>
      rw [hd] at p
      simp only [R.bind_ok] at p ⊢
      cases he : db ρ S1 with
      | ok d2 S2 => rw [he] at p; cases d <;> cases d2 <;> exact p
      | exc c d S1 => rw [he] at p; exact p
      | bad => rw [he] at p; exact p
    | exc c d S1 => rw [hd] at p; exact p
    | bad => rw [hd] at p; exact p
  refine tAr.take rs e p' fun ds S1 m1 H1 vs g1 r1 e1 rds p1 => ?_
  unfold fR2 at p1
  split at p1
  · rename_i i j
    split at p1
    · rename_i hn
      obtain ⟨v, w, rfl, rv, rw'⟩ := rds.two
      unfold RD at rv rw'
      subst rv rw'
      exact ⟨i, j, rfl, ⟨(rgOk_ok hn.1).1, (rgOk_ok hn.1).2, (rgOk_ok hn.2).1, (rgOk_ok hn.2).2⟩, (p1.now r1) trivial _ jy_range⟩
    · exact p1.elim
  · exact p1.elim
end

/-! ### for -/
open Classical in
noncomputable def forI (tg : Tg) (b : DS) (chk : Sto → Prop) : List D → DS
  | [] => fun ρ S => .nx ρ S
  | d :: ds => fun ρ S => match Tg.asg S tg d ρ with
    | none => .bad
    | some ρ1 => match b ρ1 S with
      | .nx ρ' S' => if chk S' then forI tg b chk ds ρ' S' else .bad
      | .ct ρ' S' => if chk S' then forI tg b chk ds ρ' S' else .bad
      | .bk ρ' S' => .nx ρ' S'
      | r => r
noncomputable def sFor (tg : Tg) (i : DI) (b : DS) : DS := fun ρ S => (i ρ S).to ρ fun p S1 => forI tg b p.2 p.1 ρ S1
section
open Classical
variable {X : Cx} {pos : Pos} {t iter : Expr} {body : List Stmt} {tg : Tg} {di : DI} {db : DS}
theorem zs_for (hp : PassesOwn (model X.prog X.w) X.A X.env X.xe) (hc : X.calm = true) (hi : ZI X t iter di) (hg : ZG X t tg) (hb : ZB X body db) (hs : ∀ x, foldedSetIterable iter X.env x = pure x := by intro _; rfl) : ZS X (.For t iter body [] pos) (sFor tg di db) := fun W tk =>
  ps_weak (ps_for hp hc (hi W tk) hg (hb W tk) hs) fun E σ H ⟨m, B, ρ, S, rs, e, p⟩ => by
    unfold sFor at p
    cases hd : di ρ S with
    | ok q S1 =>
      rw [hd] at p
      have p : PostS X.K m B H W E (forI tg db q.2 q.1 ρ S1) := p
      refine ⟨m, B, ρ, S, rs, e, ?_⟩
      rw [hd]
      refine fun m1 H1 g1 r1 hc0 J jy => ?_
      refine ⟨fun i k σ H => k = q.1.length - i ∧ i ≤ q.1.length ∧ ∃ m ρ S, Ge m1 H1 m H ∧ RS X.K m B H S ∧ q.2 S ∧ REs X.K m B H ρ σ ∧ PostS X.K m B H W E (forI tg db q.2 (q.1.drop i) ρ S),
        ⟨_, rfl, Nat.zero_le _, m1, ρ, S1, .refl _ _, r1, hc0, e.mono g1.tr, PostS.ge p g1⟩, ?_⟩
      rintro i k σ2 H2 ⟨rfl, hi, m2, ρ2, S2, g2, r2, hc2, e2, p2⟩
      by_cases hlt : i < q.1.length
      · refine .inr ⟨jy.go i m2 B H2 S2 g2.tr r2 hc2 hlt, fun σ H => i + 1 ≤ q.1.length ∧ ∃ m ρ S, Ge m1 H1 m H ∧ RS X.K m B H S ∧ q.2 S ∧ REs X.K m B H ρ σ ∧ PostS X.K m B H W E (forI tg db q.2 (q.1.drop (i + 1)) ρ S),
          fun σ' H' h => ⟨q.1.length - (i + 1), by omega, rfl, h⟩, fun x H3 y => ?_⟩
        rw [List.drop_eq_getElem_cons hlt] at p2
        obtain ⟨ext, rx⟩ := jy.yl i m2 B H2 S2 x H3 q.1[i] g2.tr r2 hc2 (by simp [hlt]) y
        obtain ⟨g3, r3⟩ := r2.ext ext
        have p3 := PostS.ge p2 g3
        unfold forI at p3
        cases ha : Tg.asg S2 tg q.1[i] ρ2 with
        | none => rw [ha] at p3; exact p3.elim
        | some ρ3 =>
          rw [ha] at p3
          simp only at p3
          refine ⟨m2, B, S2, _, ρ2, ρ3, r3, rx, e2.mono g3.tr, ha, fun σ3 e3 _ => ⟨m2, B, ρ3, S2, r3, e3, ?_⟩⟩
          have again : ∀ {ρ' : Env} {S' : Sto}, PostS X.K m2 B H3 W E (if q.2 S' then forI tg db q.2 (q.1.drop (i + 1)) ρ' S' else .bad) → ∀ m' H' σ', Ge m2 H3 m' H' → RS X.K m' B H' S' → REs X.K m' B H' ρ' σ' →
              i + 1 ≤ q.1.length ∧ ∃ m ρ S, Ge m1 H1 m H' ∧ RS X.K m B H' S ∧ q.2 S ∧ REs X.K m B H' ρ σ' ∧ PostS X.K m B H' W E (forI tg db q.2 (q.1.drop (i + 1)) ρ S) := fun {ρ' S'} p4 m' H' σ' g' r' e' => by
            split at p4
            · rename_i hc4
              exact ⟨hlt, m', ρ', S', (g2.trans g3).trans g', r', hc4, e', PostS.ge p4 g'⟩
            · exact p4.elim
          cases hb' : db ρ3 S2 with
          | nx ρ' S' => rw [hb'] at p3; exact again p3
          | ct ρ' S' => rw [hb'] at p3; exact again p3
          | bk ρ' S' => rw [hb'] at p3; exact p3
          | rt d S' => rw [hb'] at p3; exact p3
          | exc ρ' c d S' => rw [hb'] at p3; exact p3
          | bad => rw [hb'] at p3; exact p3
      · have e' : i = q.1.length := by omega
        subst e'
        rw [List.drop_length] at p2
        exact .inl ⟨jy.st _ m2 B H2 S2 g2.tr r2 hc2 (Nat.le_refl _), p2 m2 H2 σ2 (.refl _ _) r2 e2⟩
    | exc c d S1 =>
      rw [hd] at p
      refine ⟨m, B, ρ, S, rs, e, ?_⟩
      rw [hd]
      exact fun m1 H1 x v g1 r1 hx rv => p m1 H1 σ x v g1 r1 (e.mono g1.tr) hx rv
    | bad => rw [hd] at p; exact p.elim
end
end Z
namespace Z
open PySem L2

/-! ### list comprehensions -/
/-- nothing may be raised within -/
def R.safe {α : Type} (r : R α) : R α := match r with
  | .ok a S => .ok a S
  | _ => .bad
@[simp] theorem R.safe_ok {α : Type} (a : α) (S : Sto) : (R.ok a S).safe = .ok a S := rfl
open Classical in
/-- the items that the turns give -/
noncomputable def lcI (tg : Tg) (chk : Sto → Prop) (t : DT) (e : DE) (ρ0 : Env) : List D → Sto → R (List D)
  | [], S => .ok [] S
  | d :: ds, S => match Tg.asg S tg d ρ0 with
    | none => .bad
    | some ρ1 => (t ρ1 S).safe.bind fun k S1 => if k = true then (e ρ1 S1).safe.bind fun y S2 => if chk S2 then (lcI tg chk t e ρ0 ds S2).bind fun ys S3 => .ok (y :: ys) S3 else .bad
      else if chk S1 then lcI tg chk t e ρ0 ds S1 else .bad
noncomputable def lLc (tg : Tg) (i : DI) (t : DT) (e : DE) (vs : List Nat) : DA := fun ρ S => (i ρ S).bind fun p S1 => if p.1.length ≤ 16777216 then lcI tg p.2 t e (wipeD ρ vs) p.1 S1 else .bad
def tYes : DT := fun _ S => .ok true S
def ZTs (X : Cx) (ifs : List Expr) (den : DT) : Prop := ∀ W, Takes X W → PTs X ifs (tTe W X.K den)
theorem pts_weak {X : Cx} {e : List Expr} {t t' : TT} (h : PTs X e t) (i : ∀ σ H Q, t' σ H Q → t σ H Q) : PTs X e t' := ⟨fun pins s σ H Q I q => h.run pins s σ H Q I (i σ H Q q)⟩
abbrev WF : WX := fun _ _ _ _ => False
theorem zts_nil {X : Cx} : ZTs X [] tYes := fun W tk => pts_weak pts_nil fun σ H Q ⟨m, B, ρ, S, rs, e, p⟩ => p.now rs
theorem zts_one {X : Cx} {c : Expr} {dt : DT} (h : ZT X c dt) : ZTs X [c] dt := fun W tk => pts_one (h W tk)
theorem Post.safe {α : Type} {K : PySem.W.Frag} {m B : List Addr} {H : Hp} {W W' : Value → Option Addr → Hp → Prop} {P : α → Sto → List Addr → Hp → Prop} {r : R α} (h : Post K m B H W P r.safe) : Post K m B H W' P r := by
  cases r with
  | ok a S => exact h
  | exc c d S => exact (show False from h).elim
  | bad => exact h
def PostLF (K : PySem.W.Frag) (m B : List Addr) (H : Hp) (Q : VK) : R (List D) → Prop
  | .ok ds S' => ∀ m' H' p vs, Ge m H m' H' → RS K m' (p :: B) H' S' → p ∉ B → Nw H p → H' p = some (.lst vs) → RDs K m' (p :: B) H' ds vs → Q (.ref p) H'
  | _ => False
theorem lcI_noexc {tg : Tg} {chk : Sto → Prop} {t : DT} {e : DE} {ρ0 : Env} : ∀ (ds : List D) (S : Sto), ∀ c d S', lcI tg chk t e ρ0 ds S ≠ .exc c d S'
  | [], S, c, d, S', h => by simp [lcI] at h
  | x :: ds, S, c, d, S', h => by
    unfold lcI at h
    split at h
    · cases h
    · rename_i ρ1 ha
      cases ht : t ρ1 S with
      | ok k S1 =>
        rw [ht] at h
        simp only [R.safe_ok, R.bind_ok] at h
        cases k with
        | true =>
          rw [if_pos rfl] at h
          cases he : e ρ1 S1 with
          | ok y S2 =>
            rw [he] at h
            simp only [R.safe_ok, R.bind_ok] at h
            split at h
            · cases hr : lcI tg chk t e ρ0 ds S2 with
              | ok ys S3 => rw [hr] at h; cases h
              | exc c' d' S3 => exact lcI_noexc ds S2 _ _ _ hr
              | bad => rw [hr] at h; cases h
            · cases h
          | exc _ _ _ => rw [he] at h; cases h
          | bad => rw [he] at h; cases h
        | false =>
          rw [if_neg Bool.false_ne_true] at h
          split at h
          · exact lcI_noexc ds S1 _ _ _ h
          · cases h
      | exc _ _ _ => rw [ht] at h; cases h
      | bad => rw [ht] at h; cases h
theorem lcI_len {tg : Tg} {chk : Sto → Prop} {t : DT} {e : DE} {ρ0 : Env} : ∀ (ds : List D) (S : Sto) ys S', lcI tg chk t e ρ0 ds S = .ok ys S' → ys.length ≤ ds.length
  | [], S, ys, S', h => by simp [lcI] at h; simp [h.1.symm]
  | x :: ds, S, ys, S', h => by
    unfold lcI at h
    split at h
    · cases h
    · rename_i ρ1 ha
      cases ht : t ρ1 S with
      | ok k S1 =>
        rw [ht] at h
        simp only [R.safe_ok, R.bind_ok] at h
        cases k with
        | true =>
          rw [if_pos rfl] at h
          cases he : e ρ1 S1 with
          | ok y S2 =>
            rw [he] at h
            simp only [R.safe_ok, R.bind_ok] at h
            split at h
            · cases hr : lcI tg chk t e ρ0 ds S2 with
              | ok ys' S3 =>
                rw [hr] at h
                have h' : R.ok (y :: ys') S3 = R.ok ys S' := h
                cases h'
                have := lcI_len ds S2 ys' _ hr
                simp only [List.length_cons]
                omega
              | exc _ _ _ => rw [hr] at h; cases h
              | bad => rw [hr] at h; cases h
            · cases h
          | exc _ _ _ => rw [he] at h; cases h
          | bad => rw [he] at h; cases h
        | false =>
          rw [if_neg Bool.false_ne_true] at h
          split at h
          · have := lcI_len ds S1 ys _ h
            simp only [List.length_cons]
            omega
          · cases h
      | exc _ _ _ => rw [ht] at h; cases h
      | bad => rw [ht] at h; cases h
/-- the walk of a comprehension's loop -/
theorem lc_core2 {K : PySem.W.Frag} {tg : Tg} {dt : DT} {de : DE} {vs : List Nat} {ρ : Env} {σ : L2.St} {J : It} {ds : List D} {chk : Sto → Prop} {m0 B : List Addr} {H0 : Hp} {S0 : Sto} {Q : VK} (rs : RS K m0 B H0 S0) (e : REs K m0 B H0 ρ σ) (hc : chk S0) (jy : JY K J m0 B H0 ds chk) (hix : ∀ i ∈ tg.ix, i ∈ vs)
    (hz : ds.length ≤ 16777216) (p : PostLF K m0 B H0 Q (lcI tg chk dt de (wipeD ρ vs) ds S0)) : ∀ Dl, H0 Dl = none → ∃ W : Nat → Nat → Hp → Prop, (∃ m, W 0 m (upd H0 Dl (.lst []))) ∧ ∀ i m H, W i m H →
      (J.stop i H ∧ Q (.ref Dl) H) ∨ (J.go i H ∧ ∃ Nx : Hp → Prop, (∀ H', Nx H' → ∃ m', m' < m ∧ W (i + 1) m' H') ∧ ∀ x H', J.yld i H x H' → gT K tg x (wipe σ vs) H' fun σ2 H2 => wipe σ2 vs = wipe σ vs ∧ tTe WF K dt σ2 H2 fun b H3 =>
        if b = true then tE WF K de σ2 H3 fun y H4 => ∃ acc, H4 Dl = some (.lst acc) ∧ acc.length < sizeLine ∧ Nx (upd H4 Dl (.lst (acc ++ [y]))) else Nx H3) := by
  intro Dl hD
  have hDm : Dl ∉ m0 := rs.notin hD
  have hDB : Dl ∉ B := rs.notB hD
  -- the state at turn i
  let St := fun (i : Nat) (H : Hp) => i ≤ ds.length ∧ ∃ m S acc va, Ge m0 H0 m H ∧ Tr m0 B H0 m (Dl :: B) H ∧ RS K m (Dl :: B) H S ∧ chk S ∧ H Dl = some (.lst va) ∧ RDs K m (Dl :: B) H acc va ∧ acc.length ≤ i ∧
    PostLF K m0 B H0 Q ((lcI tg chk dt de (wipeD ρ vs) (ds.drop i) S).bind fun ys S' => .ok (acc ++ ys) S')
  refine ⟨fun i k H => k = ds.length - i ∧ St i H, ⟨_, rfl, Nat.zero_le _, m0, S0, [], [], (rs.new hD).1, Tr.ban hD, rs.ban hD, hc, upd_same, RDs.nil, Nat.le_refl _, ?_⟩, ?_⟩
  · show PostLF K m0 B H0 Q ((lcI tg chk dt de (wipeD ρ vs) ds S0).bind fun ys S' => .ok ys S')
    cases h : lcI tg chk dt de (wipeD ρ vs) ds S0 with
    | ok ys S' => rw [h] at p; exact p
    | exc c d S' => rw [h] at p; exact p
    | bad => rw [h] at p; exact p
  · rintro i k H ⟨rfl, hi, m, S, acc, va, g, tr, r, hch, hl, ra, hla, p2⟩
    by_cases hlt : i < ds.length
    · refine .inr ⟨jy.go i m (Dl :: B) H S tr r hch hlt, St (i + 1), fun H' h => ⟨ds.length - (i + 1), by omega, rfl, h⟩, fun x H3 y => ?_⟩
      obtain ⟨ext, rx⟩ := jy.yl i m (Dl :: B) H S x H3 ds[i] tr r hch (by simp [hlt]) y
      obtain ⟨g3, r3⟩ := r.ext ext
      rw [List.drop_eq_getElem_cons hlt] at p2
      unfold lcI at p2
      have ew : REs K m (Dl :: B) H3 (wipeD ρ vs) (wipe σ vs) := (e.mono (tr.trans g3.tr)).wipe vs
      cases ha : Tg.asg S tg ds[i] (wipeD ρ vs) with
      | none => rw [ha] at p2; exact (show False from p2).elim
      | some ρ1 =>
        rw [ha] at p2
        simp only at p2
        refine ⟨m, Dl :: B, S, _, wipeD ρ vs, ρ1, r3, rx, ew, ha, fun σ2 e2 sam => ⟨by rw [sam vs hix, wipe_wipe], m, Dl :: B, ρ1, S, r3, e2, ?_⟩⟩
        cases ht : dt ρ1 S with
        | exc _ _ _ => rw [ht] at p2; exact (show False from p2).elim
        | bad => rw [ht] at p2; exact (show False from p2).elim
        | ok b S1 =>
          rw [ht] at p2
          simp only [R.safe_ok, R.bind_ok] at p2
          refine fun m4 H4 g4 r4 => ?_
          have hl4 : H4 Dl = some (.lst va) := (g4.keep Dl _ (fun q => r3.dis Dl q (List.mem_cons_self ..)) (ext _ _ hl) (fun ps e => by cases e)).2
          have ra4 := RDs.mono (g3.tr.trans g4.tr) _ _ ra
          cases b with
          | false =>
            rw [if_neg Bool.false_ne_true] at p2
            show St (i + 1) H4
            split at p2
            · rename_i hc1
              exact ⟨hlt, m4, S1, acc, va, (g.trans g3).trans g4, (tr.trans g3.tr).trans g4.tr, r4, hc1, hl4, ra4, by omega, p2⟩
            · exact (show False from p2).elim
          | true =>
            rw [if_pos rfl] at p2
            show tE WF K de σ2 H4 _
            refine ⟨m4, Dl :: B, ρ1, S1, r4, e2.mono g4.tr, ?_⟩
            cases he : de ρ1 S1 with
            | exc _ _ _ => rw [he] at p2; exact (show False from p2).elim
            | bad => rw [he] at p2; exact (show False from p2).elim
            | ok y S2 =>
              rw [he] at p2
              simp only [R.safe_ok, R.bind_ok] at p2
              refine fun m5 H5 g5 r5 v rv => ?_
              have hl5 : H5 Dl = some (.lst va) := (g5.keep Dl _ (fun q => r4.dis Dl q (List.mem_cons_self ..)) hl4 (fun ps e => by cases e)).2
              have ra5 := RDs.mono g5.tr _ _ ra4
              split at p2
              · rename_i hc2
                refine ⟨va, hl5, ?_, hlt, m5, S2, acc ++ [y], va ++ [v], ?_, ?_, ?_, hc2, upd_same, ?_, ?_, ?_⟩
                · rw [← ra5.len, sizeLine_eq]
                  omega
                · have g6 := ((g.trans g3).trans g4).trans g5
                  exact ⟨g6.pre, fun b o hb q nt => ⟨(g6.keep b o hb q nt).1, by rw [upd_ne (ne_of_none q hD)]; exact (g6.keep b o hb q nt).2⟩⟩
                · exact (((tr.trans g3.tr).trans g4.tr).trans g5.tr).trans (Tr.chg (List.mem_cons_self ..))
                · exact r5.chg (List.mem_cons_self ..)
                · exact RDs.mono (Tr.chg (List.mem_cons_self ..)) _ _ (ra5.app (RDs.cons rv RDs.nil))
                · simp
                  omega
                · cases hr : lcI tg chk dt de (wipeD ρ vs) (ds.drop (i + 1)) S2 with
                  | ok ys S3 =>
                    rw [hr] at p2
                    simp only [R.bind_ok, List.append_assoc, List.singleton_append] at p2 ⊢
                    exact p2
                  | exc _ _ _ => rw [hr] at p2; exact (show False from p2).elim
                  | bad => rw [hr] at p2; exact (show False from p2).elim
              · exact (show False from p2).elim
    · have e' : i = ds.length := by omega
      subst e'
      rw [List.drop_length] at p2
      simp only [lcI, R.bind_ok, List.append_nil] at p2
      exact .inl ⟨jy.st _ m (Dl :: B) H S tr r hch (Nat.le_refl _), p2 m H Dl va g r hDB (nw_none hD) hl ra⟩
section
variable {X : Cx} {pos spos : Pos} {elt t iter : Expr} {ifs : List Expr} {scope : Scope} {own : List (Str × Nat)} {tg : Tg} {di : DI} {dt : DT} {de : DE}
theorem tlc_weak {K : PySem.W.Frag} {W : WX} {vs : List Nat} (hix : ∀ i ∈ tg.ix, i ∈ vs) (σ : L2.St) (H : Hp) (Q : VK) (h : tL W K (lLc tg di dt de vs) σ H Q) : tLc (tI W K di) (gT K tg) (tTe WF K dt) (tE WF K de) vs σ H Q := by
  obtain ⟨m, B, ρ, S, rs, e, p⟩ := h
  refine ⟨m, B, ρ, S, rs, e, ?_⟩
  unfold lLc at p
  cases hd : di ρ S with
  | ok q S1 =>
    rw [hd] at p
    simp only [R.bind_ok] at p
    refine fun m1 H1 g1 r1 hc J jy => ?_
    split at p
    · rename_i hz
      refine lc_core2 r1 (e.mono g1.tr) hc jy hix hz ?_
      cases h : lcI tg q.2 dt de (wipeD ρ vs) q.1 S1 with
      | ok ys S' =>
        rw [h] at p
        refine fun m2 H2 pp va g2 r2 hB h0 h2 rv => p m2 H2 pp va (g1.trans g2) r2 hB ?_ h2 rv
        exact g1.new_wasN (r2.out g2) h0
      | exc c d S' => exact absurd h (lcI_noexc _ _ _ _ _)
      | bad => rw [h] at p; exact p
    · exact (show False from p).elim
  | exc c d S1 => rw [hd] at p; exact p
  | bad => rw [hd] at p; exact p
theorem zl_lc (hc : X.calm = true) (hN : X.N.Nodup) (hi : ZI X t iter di) (ok : BlkOk X.N X.env.scope scope own) (hix : ∀ i ∈ tg.ix, i ∈ own.map (·.2))
    (hg : ∀ (s : Shared) (H : Hp) (C : Addr) (cl : List (Str × Addr)) (fp : List Addr), ZG (X.blk s H scope (compEnvC scope cl C X.env) fp) t tg) (ht : ∀ (s : Shared) (H : Hp) (C : Addr) (cl : List (Str × Addr)) (fp : List Addr), ZTs (X.blk s H scope (compEnvC scope cl C X.env) fp) ifs dt)
    (he : ∀ (s : Shared) (H : Hp) (C : Addr) (cl : List (Str × Addr)) (fp : List Addr), ZE (X.blk s H scope (compEnvC scope cl C X.env) fp) elt de) (hs : ∀ x, foldedSetIterable iter X.env x = pure x := by intro _; rfl) :
    ZL X (.ListComp elt [⟨t, iter, ifs, 0⟩] scope pos) (lLc tg di dt de (own.map (·.2))) := fun W tk =>
  pe_weak (pe_lc (g := gT X.K tg) (tt := tTe WF X.K dt) (te := tE WF X.K de) hc hN (hi W tk) ok (fun s H C cl fp => hg s H C cl fp) (fun s H C cl fp => ht s H C cl fp WF takes0) (fun s H C cl fp => he s H C cl fp WF takes0) hs) fun σ H Q h => tlc_weak hix σ H Q h
/-- y = [..], the list a value | put into the store -/
theorem zs_setLc {i : Nat} {y : Str} {py : Pos} {new : Bool} (hc : X.calm = true) (hN : X.N.Nodup) (hi : ZI X t iter di) (ok : BlkOk X.N X.env.scope scope own) (hix : ∀ i ∈ tg.ix, i ∈ own.map (·.2))
    (hg : ∀ (s : Shared) (H : Hp) (C : Addr) (cl : List (Str × Addr)) (fp : List Addr), ZG (X.blk s H scope (compEnvC scope cl C X.env) fp) t tg) (ht : ∀ (s : Shared) (H : Hp) (C : Addr) (cl : List (Str × Addr)) (fp : List Addr), ZTs (X.blk s H scope (compEnvC scope cl C X.env) fp) ifs dt)
    (he : ∀ (s : Shared) (H : Hp) (C : Addr) (cl : List (Str × Addr)) (fp : List Addr), ZE (X.blk s H scope (compEnvC scope cl C X.env) fp) elt de) (hy : X.N[i]? = some y := by rfl) (hyl : X.env.scope.names.lookup y = some .local := by rfl)
    (hsw : swapsWith (.ListComp elt [⟨t, iter, ifs, 0⟩] scope pos) (some (.Name y py)) spos.line X.env = pure true := by exact sw_true rfl rfl rfl (by decide +kernel)) (hs : ∀ x, foldedSetIterable iter X.env x = pure x := by intro _; rfl) :
    ZS X (.Assign [.Name y py] (.ListComp elt [⟨t, iter, ifs, 0⟩] scope pos) spos) (sSet i (if new = true then eLN (lLc tg di dt de (own.map (·.2))) else eLV (lLc tg di dt de (own.map (·.2))))) := fun W tk =>
  ps_weak (ps_setLc (g := gT X.K tg) (tt := tTe WF X.K dt) (te := tE WF X.K de) hc hN hy hyl hsw (hi W tk) ok (fun s H C cl fp => hg s H C cl fp) (fun s H C cl fp => ht s H C cl fp WF takes0) (fun s H C cl fp => he s H C cl fp WF takes0) hs) fun E σ H ⟨m, B, ρ, S, rs, e, p⟩ => by
    refine tlc_weak hix σ H _ ?_
    cases new with
    | true => exact tl_ln (tE.takeS (da := eLN (lLc tg di dt de (own.map (·.2)))) rs e p fun d S1 m1 H1 v g1 r1 e1 rd p1 => p1 m1 H1 _ (.refl _ _) r1 (e1.set i rd))
    | false => exact tl_lv (tE.takeS (da := eLV (lLc tg di dt de (own.map (·.2)))) rs e p fun d S1 m1 H1 v g1 r1 e1 rd p1 => p1 m1 H1 _ (.refl _ _) r1 (e1.set i rd))
end
end Z
namespace Z
open PySem L2

/-! ### what names nothing beyond the first n of the store -/
mutual
def D.cl (n : Nat) : D → Prop
  | .tup ds => D.cls n ds
  | .lst ds => D.cls n ds
  | .scr ds => D.cls n ds
  | .ref k => k < n
  | _ => True
def D.cls (n : Nat) : List D → Prop
  | [] => True
  | d :: ds => D.cl n d ∧ D.cls n ds
end
def FsCl {κ : Type} (n : Nat) : List (κ × D) → Prop
  | [] => True
  | p :: fs => p.2.cl n ∧ FsCl n fs
def O.cl (n : Nat) : O → Prop
  | .lst ds => D.cls n ds
  | .ins _ fs => FsCl n fs
  | .dct kvs => FsCl n kvs
  | .dcT kvs => FsCl n kvs
  | .iset _ _ => True
  | .tab _ _ => True
def ClS (n : Nat) (S : Sto) : Prop := ∀ o ∈ S, O.cl n o
section
variable {K : PySem.W.Frag} {m mG B : List Addr} {H : Hp}
mutual
theorem RD.cl : ∀ {d : D} {v : V}, RD K m B H d v → d.cl m.length
  | .non, _, _ | .bl _, _, _ | .int _, _, _ | .str _, _, _ | .adr _, _, _ | .ty _, _, _ => by unfold D.cl; trivial
  | .tup ds, _, h => by unfold RD at h; obtain ⟨a, vs, _, _, r⟩ := h; unfold D.cl; exact RDs.cls r
  | .lst ds, _, h => by unfold RD at h; obtain ⟨a, vs, _, _, r⟩ := h; unfold D.cl; exact RDs.cls r
  | .scr ds, _, h => by unfold RD at h; obtain ⟨a, vs, _, _, r⟩ := h; unfold D.cl; exact RDs.cls r
  | .ref n, _, h => by unfold RD at h; obtain ⟨a, _, q⟩ := h; unfold D.cl; exact (List.getElem?_eq_some_iff.mp q).1
theorem RDs.cls : ∀ {ds : List D} {vs : List V}, RDs K m B H ds vs → D.cls m.length ds
  | [], _, _ => by unfold D.cls; trivial
  | d :: ds, _, h => by unfold RDs at h; obtain ⟨x, r, _, h1, h2⟩ := h; unfold D.cls; exact ⟨RD.cl h1, RDs.cls h2⟩
end
theorem RFs.cl {κ : Type} : ∀ {fs : List (κ × D)} {vs : List (κ × V)}, RFs K m B H fs vs → FsCl m.length fs
  | [], _, _ => trivial
  | p :: fs, _, ⟨x, r, _, h1, h2⟩ => ⟨RD.cl h1, RFs.cl h2⟩
theorem RS.cl {S : Sto} (r : RS K m B H S) : ClS S.length S := fun o ho => by
  obtain ⟨n, hn⟩ := List.mem_iff_getElem?.mp ho
  obtain ⟨a, ha, q⟩ := r.at hn
  rw [← r.len]
  cases o with
  | lst ds => obtain ⟨vs, _, rv⟩ := q; exact RDs.cls rv
  | ins C fs => obtain ⟨dx, vs, _, rv⟩ := q; exact RFs.cl rv
  | dct kvs => obtain ⟨vs, _, rv⟩ := q; exact RFs.cl rv
  | dcT kvs => obtain ⟨vs, _, rv⟩ := q; exact RFs.cl rv
  | iset p n => trivial
  | tab P q => trivial
mutual
theorem RD.drop : ∀ {d : D} {v : V}, RD K (m ++ mG) B H d v → d.cl m.length → RD K m B H d v
  | .non, _, h, _ | .bl _, _, h, _ | .int _, _, h, _ | .str _, _, h, _ | .adr _, _, h, _ | .ty _, _, h, _ => by unfold RD at h ⊢; exact h
  | .tup ds, _, h, c => by
    unfold RD at h ⊢
    unfold D.cl at c
    obtain ⟨a, vs, e, f, r⟩ := h
    exact ⟨a, vs, e, f.elim (fun q => .inl ⟨fun z => q.1 (List.mem_append_left _ z), q.2⟩) .inr, RDs.dropG r c⟩
  | .lst ds, _, h, c => by
    unfold RD at h ⊢
    unfold D.cl at c
    obtain ⟨a, vs, e, f, r⟩ := h
    exact ⟨a, vs, e, ⟨fun z => f.1 (List.mem_append_left _ z), f.2⟩, RDs.dropG r c⟩
  | .scr ds, _, h, c => by
    unfold RD at h ⊢
    unfold D.cl at c
    obtain ⟨a, vs, e, f, r⟩ := h
    exact ⟨a, vs, e, f.elim (fun q => .inl ⟨fun z => q.1 (List.mem_append_left _ z), q.2⟩) .inr, RDs.dropG r c⟩
  | .ref n, _, h, c => by
    unfold RD at h ⊢
    unfold D.cl at c
    obtain ⟨a, e, q⟩ := h
    exact ⟨a, e, by rw [List.getElem?_append_left c] at q; exact q⟩
theorem RDs.dropG : ∀ {ds : List D} {vs : List V}, RDs K (m ++ mG) B H ds vs → D.cls m.length ds → RDs K m B H ds vs
  | [], _, h, _ => by unfold RDs at h ⊢; exact h
  | d :: ds, _, h, c => by
    unfold RDs at h ⊢
    unfold D.cls at c
    obtain ⟨x, r, e, h1, h2⟩ := h
    exact ⟨x, r, e, RD.drop h1 c.1, RDs.dropG h2 c.2⟩
end
theorem RFs.drop {κ : Type} : ∀ {fs : List (κ × D)} {vs : List (κ × V)}, RFs K (m ++ mG) B H fs vs → FsCl m.length fs → RFs K m B H fs vs
  | [], _, h, _ => h
  | p :: fs, _, ⟨x, r, e, h1, h2⟩, c => ⟨x, r, e, RD.drop h1 c.1, RFs.drop h2 c.2⟩
theorem RS.dropG {S G : Sto} (r : RS K (m ++ mG) B H (S ++ G)) (hl : m.length = S.length) (c : ClS S.length S) : RS K m B H S := by
  refine ⟨hl, (List.nodup_append.mp r.nd).1, fun a ha => r.dis a (List.mem_append_left _ ha), r.bn, fun n a o h1 h2 => ?_, fun n P q h => r.tb n P q (by rw [List.getElem?_append_left (List.getElem?_eq_some_iff.mp h).1]; exact h)⟩
  have hn : n < m.length := (List.getElem?_eq_some_iff.mp h1).1
  have q := r.ob n a o (by rw [List.getElem?_append_left hn]; exact h1) (by rw [List.getElem?_append_left (by rw [← hl]; exact hn)]; exact h2)
  have co := c o (List.mem_of_getElem? h2)
  rw [← hl] at co
  cases o with
  | lst ds => obtain ⟨vs, e, rv⟩ := q; exact ⟨vs, e, RDs.dropG rv co⟩
  | ins C fs => obtain ⟨dx, vs, e, rv⟩ := q; exact ⟨dx, vs, e, RFs.drop rv co⟩
  | dct kvs => obtain ⟨vs, e, rv⟩ := q; exact ⟨vs, e, RFs.drop rv co⟩
  | dcT kvs => obtain ⟨vs, e, rv⟩ := q; exact ⟨vs, e, RFs.drop rv co⟩
  | iset p n => exact q
  | tab P q0 =>
    obtain ⟨e0, ps, e, ok, k⟩ := q
    refine ⟨e0, ps, e, ok, fun pos cv hc => ?_⟩
    obtain ⟨c, e1, e2, e3, e4⟩ := k pos cv hc
    exact ⟨c, e1, fun z => e2 (List.mem_append_left _ z), e3, e4⟩
end
/-- r', what a def's body comes to, is what r says, but for things of the store that nothing names -/
def Ref (S0 : Sto) (r r' : R D) : Prop := match r with
  | .ok d S => r' = .ok d S ∨ ∃ G, r' = .ok d (S ++ G) ∧ S0.length ≤ S.length ∧ d.cl S.length ∧ ClS S.length S
  | .exc c d S => r' = .exc c d S ∨ ∃ G, r' = .exc c d (S ++ G) ∧ S0.length ≤ S.length ∧ d.cl S.length ∧ ClS S.length S
  | .bad => True
theorem Ref.same {S0 : Sto} {r r' : R D} (h : r' = r) : Ref S0 r r' := by
  subst h
  cases r' with
  | ok d S => exact .inl rfl
  | exc c d S => exact .inl rfl
  | bad => trivial
theorem split_pre {m m' : List Addr} {n : Nat} (g : ∃ l, m' = m ++ l) (h1 : m.length ≤ n) (h2 : n ≤ m'.length) : ∃ a b, m' = a ++ b ∧ a.length = n ∧ ∃ l, a = m ++ l := by
  obtain ⟨l, rfl⟩ := g
  refine ⟨m ++ l.take (n - m.length), l.drop (n - m.length), by rw [List.append_assoc, List.take_append_drop], ?_, _, rfl⟩
  rw [List.length_append, List.length_take]
  rw [List.length_append] at h2
  omega
theorem Ref.post {K : PySem.W.Frag} {m B : List Addr} {H : Hp} {W : Value → Option Addr → Hp → Prop} {Q : VK} {S0 : Sto} {r r' : R D} (rs : RS K m B H S0) (h : Ref S0 r r') (p : Post K m B H W (fun d _ m' H' => ∀ v, RD K m' B H' d v → Q v H') r) :
    Post K m B H W (fun d _ m' H' => ∀ v, RD K m' B H' d v → Q v H') r' := by
  cases r with
  | bad => exact p.elim
  | ok d S =>
    rcases h with rfl | ⟨G, rfl, h1, h2, h3⟩
    · exact p
    · refine fun m' H' g r' v rv => ?_
      obtain ⟨a, b, rfl, hl, pre⟩ := split_pre g.pre (by rw [rs.len]; exact h1) (by rw [r'.len]; simp)
      have g' : Ge m H a H' := ⟨pre, fun x o hx e nt => ⟨fun z => (g.keep x o hx e nt).1 (List.mem_append_left _ z), (g.keep x o hx e nt).2⟩⟩
      exact p a H' g' (r'.dropG hl h3) v (RD.drop rv (by rw [hl]; exact h2))
  | exc c d S =>
    rcases h with rfl | ⟨G, rfl, h1, h2, h3⟩
    · exact p
    · refine fun m' H' x v g r' hx rv => ?_
      obtain ⟨a, b, rfl, hl, pre⟩ := split_pre g.pre (by rw [rs.len]; exact h1) (by rw [r'.len]; simp)
      have g' : Ge m H a H' := ⟨pre, fun x o hx e nt => ⟨fun z => (g.keep x o hx e nt).1 (List.mem_append_left _ z), (g.keep x o hx e nt).2⟩⟩
      exact p a H' x v g' (r'.dropG hl h3) hx (RD.drop rv (by rw [hl]; exact h2))

/-! ### a def by its body -/
def env0 (N : Nat) (ds : List D) : Env := ds.map some ++ List.replicate (N - ds.length) none
/-- what the body comes to -/
def runB (N : Nat) (den : DS) (ds : List D) (S : Sto) : R D := match den (env0 N ds) S with
  | .nx _ S' => .ok .non S'
  | .rt d S' => .ok d S'
  | .exc _ c d S' => .exc c d S'
  | _ => .bad
theorem REs.start {K : PySem.W.Frag} {m B : List Addr} {H : Hp} : ∀ {ds : List D} {vs : List V}, RDs K m B H ds vs → ∀ k, REs K m B H (ds.map some ++ List.replicate k none) (vs.map some ++ List.replicate k none)
  | [], _, h, k => by
    unfold RDs at h
    subst h
    show REs K m B H (List.replicate k none) (List.replicate k none)
    induction k with
    | zero => rfl
    | succ k ih => exact ⟨none, _, rfl, fun d q => (nomatch q), ih⟩
  | d :: ds, _, h, k => by
    unfold RDs at h
    obtain ⟨x, r, rfl, h1, h2⟩ := h
    exact ⟨some x, _, rfl, fun d' q => ⟨x, rfl, by cases q; exact h1⟩, REs.start h2 k⟩
theorem tS_run {K : PySem.W.Frag} {N : List Str} {den : DS} {m B : List Addr} {H : Hp} {ds : List D} {vs : List V} {S : Sto} {Q : VK} {E : XK} (rs : RS K m B H S) (rd : RDs K m B H ds vs) (p : Post K m B H E (fun d _ m' H' => ∀ v, RD K m' B H' d v → Q v H') (runB N.length den ds S)) :
    tS (fun c x _ H' => E c x H') K den { nx := fun _ H' => Q .non H', rt := Q } (L2.start N vs) H := by
  refine ⟨m, B, env0 N.length ds, S, rs, ?_, ?_⟩
  · unfold env0 L2.start
    rw [rd.len]
    exact REs.start rd _
  · unfold runB at p
    cases hd : den (env0 N.length ds) S with
    | nx ρ S' => rw [hd] at p; exact fun m' H' σ' g r e => p m' H' g r .non RDn
    | rt d S' => rw [hd] at p; exact fun m' H' v g r rv => p m' H' g r v rv
    | bk ρ S' => rw [hd] at p; exact p.elim
    | ct ρ S' => rw [hd] at p; exact p.elim
    | exc ρ c d S' => rw [hd] at p; exact fun m' H' σ' x v g r e hx rv => p m' H' x v g r hx rv
    | bad => rw [hd] at p; exact p.elim
/-- what holds of the context of a def's body -/
structure Good (X : Cx) (k : Nat) : Prop where
  room : Room k X.A
  calm : X.calm = true
  pass : PassesOwn (model X.prog X.w) X.A X.env X.xe
section
variable {P : Program} {w : World} {K : PySem.W.Frag} {mg : Str → Option Value} {base : Heap} {x qual : Str} {params : Arguments} {body : List Stmt} {scope : Scope} {dvs : List V} {kws : List (Str × V)} {f : Addr} {fd : FuncData}
theorem zfn {N ps : List Str} {k n : Nat} {den : DS} {F : List D → Sto → R D} (fdd : FunD K x qual params body scope dvs kws f fd) (S : FnScope N ps scope) (hn : ps.length = n)
    (hb : ∀ (cdv : Value) (A : Around) (outer : List PySem.Env) (s : Shared) (H : Hp) (E : XK), Good (cxOf (L2.CX P w) P w K mg base N qual scope f cdv A outer s H E) k → ZB (cxOf (L2.CX P w) P w K mg base N qual scope f cdv A outer s H E) body den)
    (imp : ∀ ds S, ds.length = n → ClS S.length S → D.cls S.length ds → Ref S (F ds S) (runB N.length den ds S)) : FnOk P w K mg base (L2.CX P w) (k + 1) f fd ps (spI K n F) := by
  refine fdd.ok S (fun vs H Q E h => by rw [hn]; exact spI_len h) fun cdv A outer s H vs Q E hr h => ?_
  obtain ⟨m, B, ds, S', rs, rd, hl, p⟩ := h
  refine ⟨_, hb cdv A outer s H E ⟨hr, rfl, passes_of rfl⟩ (fun c x _ H' => E c x H') (takes_of rfl rfl rfl rfl), ?_⟩
  refine tS_run rs rd ((imp ds S' hl rs.cl ?_).post rs p)
  rw [← rs.len]
  exact RDs.cls rd
end
end Z
namespace Z
open PySem L2

/-! ### more numbers -/
section
variable {X : Cx} {pos : Pos} {a b c : Expr} {da db dc : DE}
def mulOk (i j : Int) : Bool := decide (i.natAbs < 18446744073709551616 ∨ j.natAbs < 18446744073709551616 ∨ i.natAbs.log2 + j.natAbs.log2 < 1000000)
def divOk (_i j : Int) : Bool := decide (0 < j ∧ j.natAbs.log2 < 9000)
def powOk (i j : Int) : Bool := decide (0 ≤ j ∧ j ≤ 1000000 ∧ i.natAbs < 18446744073709551616)
def fMul := fI (fun i j => .int (i * j)) mulOk
def fDiv := fI (fun i j => .int (i / j)) divOk
def fPow := fI (fun i j => .int (i ^ j.toNat)) powOk
theorem mul_any {i j : Int} (h : mulOk i j = true) : IntMulOk i j := by
  rcases of_decide_eq_true h with h | h | h
  · exact CMul.ok (.inl ⟨by omega, by omega⟩)
  · exact CMul.ok (.inr ⟨by omega, by omega⟩)
  · exact CMulW.ok h
theorem ze_mul (ha : ZE X a da) (hb : ZE X b db) : ZE X (.BinOp a .Mult b pos) (e2 fMul da db) := ze_op (r := rI (fun i j => mulOk i j = true) fun i j => .int (i * j)) (opI fun _ _ _ _ _ _ _ hc q => PyProof.Rows.mul_int q (mul_any hc)) (okI (fun _ _ h => h) fun _ _ _ _ _ => RDi _) ha hb
theorem ze_fdiv (ha : ZE X a da) (hb : ZE X b db) : ZE X (.BinOp a .FloorDiv b pos) (e2 fDiv da db) := ze_op op_fdivW (okI (fun i j h => (of_decide_eq_true h : 0 < j ∧ j.natAbs.log2 < 9000)) fun _ _ _ _ _ => RDi _) ha hb
theorem ze_pow (ha : ZE X a da) (hb : ZE X b db) : ZE X (.BinOp a .Pow b pos) (e2 fPow da db) := ze_op op_pow (okI (fun _ _ h => by
  have q := of_decide_eq_true h
  exact ⟨q.1, q.2.1, q.2.2⟩) fun _ _ _ _ _ => RDi _) ha hb
def fNeg : D → Sto → R D
  | .int i, S => .ok (.int (-i)) S
  | _, _ => .bad
theorem okNeg {K : PySem.W.Frag} : OkUn K (rU fun i => .int (-i)) fNeg := by
  intro m B H S d x W Q rs rd p
  cases d <;> try exact p.elim
  rename_i i
  unfold RD at rd
  subst rd
  exact ⟨i, rfl, p.now rs _ (RDi _)⟩
theorem ze_neg (ha : ZE X a da) : ZE X (.UnaryOp .USub a pos) (e1 fNeg da) := ze_un un_neg okNeg ha

/-! ### a + b: numbers, texts, tuples -/
def fPlus : D → D → Sto → R D
  | .int i, .int j, S => .ok (.int (i + j)) S
  | .str i, .str j, S => if i.length + j.length ≤ 16777216 then .ok (.str (i ++ j)) S else .bad
  | .tup xs, .tup ys, S => if xs.length + ys.length ≤ 16777216 then .ok (.tup (xs ++ ys)) S else .bad
  | .int i, .bl k, S => .ok (.int (i + PyProof.Rows.b2i k)) S
  | _, _, _ => .bad
def rPlusA (K : PySem.W.Frag) : R2 := fun x y H Q => (((∃ i j : Int, x = .int i ∧ y = .int j ∧ Q (.int (i + j)) H) ∨ (∃ i j, x = .str i ∧ y = .str j ∧ i.length + j.length ≤ sizeLine ∧ Q (.str (i ++ j)) H)) ∨ rCatA K x y H Q) ∨ (∃ i k, x = .int i ∧ y = .bl k ∧ Q (.int (i + PyProof.Rows.b2i k)) H)
theorem op_plusA : OpR X (binaryOp .Add) (rPlusA X.K) := ((op_add.or op_add_str).or op_catA).or op_add_ib
theorem okPlus {K : PySem.W.Frag} : OkOp K (rPlusA K) fPlus := by
  intro m B H S d e x y W Q rs rd re p
  cases d with
  | int i =>
    cases e with
    | int j => unfold RD at rd re; subst rd re; exact .inl (.inl (.inl ⟨i, j, rfl, rfl, p.now rs _ (RDi _)⟩))
    | bl j => unfold RD at rd re; subst rd re; exact .inr ⟨i, j, rfl, rfl, p.now rs _ (RDi _)⟩
    | _ => exact p.elim
  | str i =>
    cases e with
    | str j =>
      unfold RD at rd re
      subst rd re
      have p : Post K m B H W (fun d _ m' H' => ∀ v, RD K m' B H' d v → Q v H') (if i.length + j.length ≤ 16777216 then .ok (.str (i ++ j)) S else .bad) := p
      split at p
      · rename_i h
        exact .inl (.inl (.inr ⟨i, j, rfl, rfl, by rw [sizeLine_eq]; exact h, p.now rs _ (RDst _)⟩))
      · exact p.elim
    | _ => exact p.elim
  | tup xs =>
    cases e with
    | tup ys =>
      have rd' := rd
      have re' := re
      unfold RD at rd re
      obtain ⟨a, vs, rfl, f, r⟩ := rd
      obtain ⟨b, ws, rfl, f2, r2⟩ := re
      have p : Post K m B H W (fun d _ m' H' => ∀ v, RD K m' B H' d v → Q v H') (if xs.length + ys.length ≤ 16777216 then .ok (.tup (xs ++ ys)) S else .bad) := p
      split at p
      · rename_i h
        refine .inl (.inr ⟨a, b, vs, ws, rfl, rfl, f.sq, f2.sq, by rw [← r.len, ← r2.len, sizeLine_eq]; exact h, fun e0 => ?_, fun _ e0 => ?_, fun _ _ q hq => ?_⟩)
        · have : xs = [] := List.length_eq_zero_iff.mp (by rw [r.len, e0]; rfl)
          rw [this] at p
          exact p.now rs _ re'
        · have : ys = [] := List.length_eq_zero_iff.mp (by rw [r2.len, e0]; rfl)
          rw [this, List.append_nil] at p
          exact p.now rs _ rd'
        · obtain ⟨g2, r3⟩ := rs.new (u := .tup (vs ++ ws)) hq
          refine p m _ g2 r3 _ ?_
          unfold RD
          exact ⟨q, vs ++ ws, rfl, .inl ⟨rs.notin hq, rs.notB hq, .inl upd_same⟩, RDs.mono g2.tr _ _ (r.app r2)⟩
      · exact p.elim
    | _ => exact p.elim
  | _ => cases e <;> exact p.elim
theorem ze_plus (ha : ZE X a da) (hb : ZE X b db) : ZE X (.BinOp a .Add b pos) (e2 fPlus da db) := ze_op op_plusA okPlus ha hb

/-! ### a < b < c -/
def eChain (f g : D → D → Sto → R D) (a b c : DE) : DE := fun ρ S => (a ρ S).bind fun x S1 => (b ρ S1).bind fun y S2 => (f x y S2).bind fun z S3 => match z with
  | .bl k => if k = true then (c ρ S3).bind fun w S4 => g y w S4 else .ok (.bl false) S3
  | _ => .bad
/-- a test that is True or False -/
def tVB (a : DE) : DT := fun ρ S => (a ρ S).bind fun d S1 => match d with
  | .bl b => .ok b S1
  | _ => .bad
theorem te_bool {W : WX} {K : PySem.W.Frag} {σ : L2.St} {H : Hp} {Q : Bool → Hp → Prop} {m B : List Addr} {ρ : Env} {S : Sto} (rs : RS K m B H S) (e : REs K m B H ρ σ) (p : Post K m B H (fun c x H' => W c x σ H') (fun b _ _ H' => Q b H') (tVB da ρ S)) : tE W K da σ H fun x H' => ∃ k, x = .bl k ∧ Q k H' :=
  tE.takeA rs e p fun d S1 m1 H1 v g1 r1 e1 rd p1 => by
    cases d <;> try exact p1.elim
    rename_i b
    unfold RD at rd
    exact ⟨b, rd, p1.now r1⟩
theorem zt_cmp {op : CmpOp} {r : R2} {f : D → D → Sto → R D} (ho : OpR X (compareOp op) r) (h : OkOp X.K r f) (ha : ZE X a da) (hb : ZE X b db) (hm : behindInMarks op b = false) : ZT X (.Compare a [op] [b] pos) (tVB (e2 f da db)) := fun W tk => pt_weak (pt_cmpR ho (ha W tk) (hb W tk) hm) fun σ H Q ⟨m, B, ρ, S, rs, e, p⟩ => te_op h σ H _ (te_bool rs e p)
theorem zt_lt (ha : ZE X a da) (hb : ZE X b db) : ZT X (.Compare a [.Lt] [b] pos) (tVB (e2 fLt da db)) := zt_cmp op_lt (okI0 fun _ _ _ _ _ => RDb _) ha hb (nomark _)
theorem zt_le (ha : ZE X a da) (hb : ZE X b db) : ZT X (.Compare a [.LtE] [b] pos) (tVB (e2 fLe da db)) := zt_cmp op_le (okI0 fun _ _ _ _ _ => RDb _) ha hb (nomark _)
theorem zt_gt (ha : ZE X a da) (hb : ZE X b db) : ZT X (.Compare a [.Gt] [b] pos) (tVB (e2 fGt da db)) := zt_cmp op_gt (okI0 fun _ _ _ _ _ => RDb _) ha hb (nomark _)
theorem zt_ge (ha : ZE X a da) (hb : ZE X b db) : ZT X (.Compare a [.GtE] [b] pos) (tVB (e2 fGe da db)) := zt_cmp op_ge (okI0 fun _ _ _ _ _ => RDb _) ha hb (nomark _)
theorem zt_eq (hu : X.A.units + 64 < cLine) (ha : ZE X a da) (hb : ZE X b db) : ZT X (.Compare a [.Eq] [b] pos) (tVB (e2 fEq da db)) := zt_cmp (op_eqD hu) okEq ha hb (nomark _)
theorem zt_ne (hu : X.A.units + 64 < cLine) (ha : ZE X a da) (hb : ZE X b db) : ZT X (.Compare a [.NotEq] [b] pos) (tVB (e2 fNe da db)) := zt_cmp (op_neD hu) okNe ha hb (nomark _)
theorem zt_in (hu : X.A.units + 65 < cLine) (ha : ZE X a da) (hb : ZE X b db) (hm : behindInMarks .In b = false := by rfl) : ZT X (.Compare a [.In] [b] pos) (tVB (e2 fIn da db)) := zt_cmp (op_inD hu) okIn ha hb hm
theorem zt_notin (hu : X.A.units + 65 < cLine) (ha : ZE X a da) (hb : ZE X b db) (hm : behindInMarks .NotIn b = false := by rfl) : ZT X (.Compare a [.NotIn] [b] pos) (tVB (e2 fNotIn da db)) := zt_cmp (op_notInD hu) okNotIn ha hb hm
theorem zt_isB (ha : ZE X a da) (hb : ZE X b db) : ZT X (.Compare a [.Is] [b] pos) (tVB (e2 fIsB da db)) := zt_cmp op_isBl okIsB ha hb (nomark _)
theorem zt_isN {j : Nat} {p2 : Pos} (ha : ZE X a da) : ZT X (.Compare a [.Is] [.Constant .none j p2] pos) (tVB (e1 fIsN da)) := fun W tk => pt_weak (pt_cmp (pc_isN (ha W tk)) rfl) fun σ H Q ⟨m, B, ρ, S, rs, e, p⟩ =>
  have q : tE W X.K (e1 fIsN da) σ H fun x H' => ∃ k, x = .bl k ∧ Q k H' := te_bool rs e p
  let ⟨m, B, ρ, S, rs, e, p⟩ := q
  tE.takeA rs e p fun d S1 m1 H1 v g1 r1 e1 rd p1 => by
    rw [rd.isN]
    cases d <;> exact p1.now r1 _ (RDb _)
theorem zt_notN {j : Nat} {p2 : Pos} (ha : ZE X a da) : ZT X (.Compare a [.IsNot] [.Constant .none j p2] pos) (tVB (e1 fNotN da)) := fun W tk => pt_weak (pt_cmp (pc_notN (ha W tk)) rfl) fun σ H Q ⟨m, B, ρ, S, rs, e, p⟩ =>
  have q : tE W X.K (e1 fNotN da) σ H fun x H' => ∃ k, x = .bl k ∧ Q k H' := te_bool rs e p
  let ⟨m, B, ρ, S, rs, e, p⟩ := q
  tE.takeA rs e p fun d S1 m1 H1 v g1 r1 e1 rd p1 => by
    rw [rd.isN]
    cases d <;> exact p1.now r1 _ (RDb _)
theorem te_chain {W : WX} {K : PySem.W.Frag} {r r' : R2} {f g : D → D → Sto → R D} (hf : OkOp K r f) (hg : OkOp K r' g) (σ : L2.St) (H : Hp) (Q : VK) : tE W K (eChain f g da db dc) σ H Q → tChain r r' (tE W K da) (tE W K db) (tE W K dc) σ H Q := fun ⟨m, B, ρ, S, rs, e, p⟩ =>
  tE.takeA rs e p fun x S1 m1 H1 v g1 r1 e1 rx p1 => tE.takeA r1 e1 p1 fun y S2 m2 H2 u g2 r2 e2 ry p2 => by
    refine hf m2 B H2 S2 x y v u (fun c x H' => W c x σ H') _ r2 (rx.mono g2.tr) ry ?_
    refine (Post.bind p2).imp fun z S3 m3 H3 g3 r3 p3 w rw => ?_
    cases z <;> try exact p3.elim
    rename_i k
    unfold RD at rw
    refine ⟨k, rw, ?_⟩
    cases k with
    | false => exact p3.now r3 _ (RDb _)
    | true => exact tE.takeA r3 (e2.mono g3.tr) p3 fun w' S4 m4 H4 u4 g4 r4 e4 r4' p4 => hg m4 B H4 S4 y w' u u4 _ Q r4 (ry.mono (g3.tr.trans g4.tr)) r4' p4
theorem ze_chain {op op' : CmpOp} {r r' : R2} {f g : D → D → Sto → R D} (ho : OpR X (compareOp op) r) (ho' : OpR X (compareOp op') r') (hf : OkOp X.K r f) (hg : OkOp X.K r' g) (ha : ZE X a da) (hb : ZE X b db) (hc : ZE X c dc)
    (hm : lastMarks [op, op'] [b, c] = false := by with_unfolding_all rfl) : ZE X (.Compare a [op, op'] [b, c] pos) (eChain f g da db dc) := fun W tk => pe_weak (pe_chain ho ho' (ha W tk) (hb W tk) (hc W tk) hm) (te_chain hf hg)
theorem zt_chain {op op' : CmpOp} {r r' : R2} {f g : D → D → Sto → R D} (ho : OpR X (compareOp op) r) (ho' : OpR X (compareOp op') r') (hf : OkOp X.K r f) (hg : OkOp X.K r' g) (ha : ZE X a da) (hb : ZE X b db) (hc : ZE X c dc)
    (hm : lastMarks [op, op'] [b, c] = false := by with_unfolding_all rfl) : ZT X (.Compare a [op, op'] [b, c] pos) (tVB (eChain f g da db dc)) := fun W tk => pt_weak (pt_chain ho ho' (ha W tk) (hb W tk) (hc W tk) hm) fun σ H Q ⟨m, B, ρ, S, rs, e, p⟩ =>
  te_chain hf hg σ H _ (te_bool rs e p)
theorem ze_lele (ha : ZE X a da) (hb : ZE X b db) (hc : ZE X c dc) (hm : lastMarks [.LtE, .LtE] [b, c] = false := by with_unfolding_all rfl) : ZE X (.Compare a [.LtE, .LtE] [b, c] pos) (eChain fLe fLe da db dc) := ze_chain op_le op_le (okI0 fun _ _ _ _ _ => RDb _) (okI0 fun _ _ _ _ _ => RDb _) ha hb hc hm
theorem ze_lelt (ha : ZE X a da) (hb : ZE X b db) (hc : ZE X c dc) (hm : lastMarks [.LtE, .Lt] [b, c] = false := by with_unfolding_all rfl) : ZE X (.Compare a [.LtE, .Lt] [b, c] pos) (eChain fLe fLt da db dc) := ze_chain op_le op_lt (okI0 fun _ _ _ _ _ => RDb _) (okI0 fun _ _ _ _ _ => RDb _) ha hb hc hm
theorem zt_lele (ha : ZE X a da) (hb : ZE X b db) (hc : ZE X c dc) (hm : lastMarks [.LtE, .LtE] [b, c] = false := by with_unfolding_all rfl) : ZT X (.Compare a [.LtE, .LtE] [b, c] pos) (tVB (eChain fLe fLe da db dc)) := zt_chain op_le op_le (okI0 fun _ _ _ _ _ => RDb _) (okI0 fun _ _ _ _ _ => RDb _) ha hb hc hm
theorem zt_lelt (ha : ZE X a da) (hb : ZE X b db) (hc : ZE X c dc) (hm : lastMarks [.LtE, .Lt] [b, c] = false := by with_unfolding_all rfl) : ZT X (.Compare a [.LtE, .Lt] [b, c] pos) (tVB (eChain fLe fLt da db dc)) := zt_chain op_le op_lt (okI0 fun _ _ _ _ _ => RDb _) (okI0 fun _ _ _ _ _ => RDb _) ha hb hc hm
end

/-! ### slices -/
abbrev DO := Env → Sto → R (Option Int)
def tOp1 (W : WX) (K : PySem.W.Frag) (den : DO) : TO := fun σ H Q => ∃ m B ρ S, RS K m B H S ∧ REs K m B H ρ σ ∧ Post K m B H (fun c x H' => W c x σ H') (fun o _ _ H' => Q o H') (den ρ S)
def ZO (X : Cx) (e : Option Expr) (den : DO) : Prop := ∀ W, Takes X W → PO X e (tOp1 W X.K den)
def oN : DO := fun _ S => .ok none S
def oS (a : DE) : DO := fun ρ S => (a ρ S).bind fun d S1 => match d with
  | .int i => .ok (some i) S1
  | _ => .bad
theorem po_weak {X : Cx} {e : Option Expr} {t t' : TO} (h : PO X e t) (i : ∀ σ H Q, t' σ H Q → t σ H Q) : PO X e t' := ⟨fun pins s σ H Q I q => h.run pins s σ H Q I (i σ H Q q)⟩
theorem tOp1.take {β : Type} {W : WX} {K : PySem.W.Frag} {da : DO} {f : Option Int → Sto → R β} {σ : L2.St} {H : Hp} {Q' : Option Int → Hp → Prop} {m B : List Addr} {ρ : Env} {S : Sto} {P : β → Sto → List Addr → Hp → Prop} (r : RS K m B H S) (e : REs K m B H ρ σ)
    (h : Post K m B H (fun c x H' => W c x σ H') P ((da ρ S).bind f))
    (k : ∀ d S1 m1 H1, Ge m H m1 H1 → RS K m1 B H1 S1 → REs K m1 B H1 ρ σ → Post K m1 B H1 (fun c x H' => W c x σ H') P (f d S1) → Q' d H1) : tOp1 W K da σ H Q' :=
  ⟨m, B, ρ, S, r, e, (Post.bind h).imp fun d S1 m1 H1 g1 r1 p => k d S1 m1 H1 g1 r1 (e.mono g1.tr) p⟩
section
variable {X : Cx} {pos p2 : Pos} {e : Expr} {lo hi : Option Expr} {de : DE} {dl dh : DO}
theorem zo_none : ZO X none oN := fun W tk => po_weak po_none fun σ H Q ⟨m, B, ρ, S, rs, e, p⟩ => p.now rs
theorem zo_some (h : ZE X e de) : ZO X (some e) (oS de) := fun W tk => po_weak (po_some (h W tk)) fun σ H Q ⟨m, B, ρ, S, rs, e, p⟩ => tE.takeA rs e p fun d S1 m1 H1 v g1 r1 e1 rd p1 => by
  cases d <;> try exact p1.elim
  rename_i i
  unfold RD at rd
  exact ⟨i, rd, p1.now r1⟩
def cutA {α : Type} (xs : List α) (lo hi : Option Int) : List α := (xs.drop (HT.sIx xs.length 0 lo)).take (HT.sIx xs.length xs.length hi - HT.sIx xs.length 0 lo)
theorem cutA_V (xs : List V) (lo hi : Option Int) : cutA xs lo hi = cutV xs lo hi := rfl
theorem RDs.cut {K : PySem.W.Frag} {m B : List Addr} {H : Hp} {ds : List D} {vs : List V} (h : RDs K m B H ds vs) (lo hi : Option Int) : RDs K m B H (cutA ds lo hi) (cutV vs lo hi) := by
  unfold cutA cutV
  rw [h.len]
  exact RDs.take _ (RDs.drop _ h)
/-- xs[lo:hi] of a list: a new list -/
def lSl (a : DE) (l h : DO) : DA := fun ρ S => (a ρ S).bind fun d S1 => (l ρ S1).bind fun i S2 => (h ρ S2).bind fun j S3 => match lstOf S3 d with
  | some ds => .ok (cutA ds i j) S3
  | none => .bad
theorem zl_slice (he : ZE X e de) (hl : ZO X lo dl) (hh : ZO X hi dh) : ZL X (.Subscript e (.Slice lo hi none p2) pos) (lSl de dl dh) := fun W tk => pe_weak (pe_slice sl_list (he W tk) (hl W tk) (hh W tk)) fun σ H Q ⟨m, B, ρ, S, rs, e, p⟩ => by
  unfold lSl at p
  refine ⟨m, B, ρ, S, rs, e, ?_⟩
  cases h1 : de ρ S with
  | bad => rw [h1] at p; exact p
  | exc c d S' => rw [h1] at p; exact p
  | ok d S1 =>
    rw [h1] at p
    simp only [R.bind_ok] at p
    intro m1 H1 g1 r1 v rv
    refine ⟨m1, B, ρ, S1, r1, e.mono g1.tr, ?_⟩
    cases h2 : dl ρ S1 with
    | bad => rw [h2] at p; exact p
    | exc c d S' => rw [h2] at p; exact fun m2 H2 x v g2 => p m2 H2 x v (g1.trans g2)
    | ok i S2 =>
      rw [h2] at p
      simp only [R.bind_ok] at p
      intro m2 H2 g2 r2
      refine ⟨m2, B, ρ, S2, r2, e.mono (g1.tr.trans g2.tr), ?_⟩
      cases h3 : dh ρ S2 with
      | bad => rw [h3] at p; exact p
      | exc c d S' => rw [h3] at p; exact fun m3 H3 x v g3 => p m3 H3 x v ((g1.trans g2).trans g3)
      | ok j S3 =>
        rw [h3] at p
        simp only [R.bind_ok] at p
        intro m3 H3 g3 r3
        have rv3 := rv.mono (g2.tr.trans g3.tr)
        cases hs : lstOf S3 d with
        | none => rw [hs] at p; exact p.elim
        | some ds =>
          rw [hs] at p
          obtain ⟨a, vs, rfl, sq, r⟩ := lstOf_ok r3 rv3 hs
          have gg := (g1.trans g2).trans g3
          refine ⟨a, vs, rfl, sq, fun q hq => ?_⟩
          exact p m3 _ q (cutV vs i j) (gg.trans (r3.new hq).1) (r3.ban hq) (r3.notB hq) (gg.new_was (r3.notin hq) hq) upd_same (RDs.mono (Tr.ban hq) _ _ (r.cut i j))
/-- t[lo:hi] of a tuple, of a text -/
def fSl (d : D) (i j : Option Int) (S : Sto) : R D := match d with
  | .tup ds => .ok (.tup (cutA ds i j)) S
  | .str z => if z.length ≤ 16777216 then .ok (.str (cutS z i j)) S else .bad
  | _ => .bad
def eSl (a : DE) (l h : DO) : DE := fun ρ S => (a ρ S).bind fun d S1 => (l ρ S1).bind fun i S2 => (h ρ S2).bind fun j S3 => fSl d i j S3
theorem cutA_all {α : Type} (xs : List α) (lo hi : Option Int) (h : HT.sIx xs.length 0 lo = 0 ∧ HT.sIx xs.length xs.length hi = xs.length) : cutA xs lo hi = xs := by
  unfold cutA
  rw [h.1, h.2]
  simp
theorem ze_slice (he : ZE X e de) (hl : ZO X lo dl) (hh : ZO X hi dh) : ZE X (.Subscript e (.Slice lo hi none p2) pos) (eSl de dl dh) := fun W tk => pe_weak (pe_slice (sl_tupA.or sl_str) (he W tk) (hl W tk) (hh W tk)) fun σ H Q ⟨m, B, ρ, S, rs, e, p⟩ =>
  tE.takeA rs e p fun d S1 m1 H1 v g1 r1 e1 rd p1 => tOp1.take r1 e1 p1 fun i S2 m2 H2 g2 r2 e2 p2 => tOp1.take r2 e2 p2 fun j S3 m3 H3 g3 r3 e3 p3 => by
    have rd3 := rd.mono (g2.tr.trans g3.tr)
    cases d <;> try exact p3.elim
    · rename_i z
      have p3 : Post X.K m3 B H3 (fun c x H' => W c x σ H') (fun d _ m' H' => ∀ v, RD X.K m' B H' d v → Q v H') (if z.length ≤ 16777216 then .ok (.str (cutS z i j)) S3 else .bad) := p3
      unfold RD at rd3
      split at p3
      · rename_i hz
        exact .inr ⟨z, rd3, by rw [sizeLine_eq]; exact hz, p3.now r3 _ (RDst _)⟩
      · exact p3.elim
    · rename_i ds
      have rd4 := rd3
      unfold RD at rd3
      obtain ⟨a, vs, rfl, f, r⟩ := rd3
      refine .inl ⟨a, vs, rfl, f.sq, fun hw => ?_, fun _ q hq => ?_⟩
      · rw [← r.len] at hw
        have p4 : Post X.K m3 B H3 _ _ (R.ok (D.tup (cutA ds i j)) S3) := p3
        rw [cutA_all _ _ _ hw] at p4
        exact p4.now r3 _ rd4
      · obtain ⟨g4, r4⟩ := r3.new (u := .tup (cutV vs i j)) hq
        refine (show Post X.K m3 B H3 _ _ (R.ok (D.tup (cutA ds i j)) S3) from p3) m3 _ g4 r4 _ ?_
        unfold RD
        exact ⟨q, _, rfl, .inl ⟨r3.notin hq, r3.notB hq, .inl upd_same⟩, RDs.mono g4.tr _ _ (r.cut i j)⟩
/-- xs[::-1] of a list -/
def lRev (a : DE) : DA := fun ρ S => (a ρ S).bind fun d S1 => match lstOf S1 d with
  | some ds => .ok ds.reverse S1
  | none => .bad
theorem zl_rev {k : Nat} {p1 p4 : Pos} (he : ZE X e de) : ZL X (.Subscript e (.Slice none none (some (.UnaryOp .USub (.Constant (.int 1) k p1) p2)) p4) pos) (lRev de) := fun W tk => pe_weak (pe_revL (he W tk)) fun σ H Q ⟨m, B, ρ, S, rs, e, p⟩ => by
  unfold lRev at p
  refine ⟨m, B, ρ, S, rs, e, ?_⟩
  cases h1 : de ρ S with
  | bad => rw [h1] at p; exact p
  | exc c d S' => rw [h1] at p; exact p
  | ok d S1 =>
    rw [h1] at p
    simp only [R.bind_ok] at p
    intro m1 H1 g1 r1 v rv
    cases hs : lstOf S1 d with
    | none => rw [hs] at p; exact p.elim
    | some ds =>
      rw [hs] at p
      obtain ⟨a, vs, rfl, sq, r⟩ := lstOf_ok r1 rv hs
      refine ⟨a, vs, rfl, sq, fun q hq => ?_⟩
      exact p m1 _ q vs.reverse (g1.trans (r1.new hq).1) (r1.ban hq) (r1.notB hq) (g1.new_was (r1.notin hq) hq) upd_same (RDs.mono (Tr.ban hq) _ _ r.rev)
end

/-! ### a, b = e1, e2 -/
section
variable {X : Cx} {pos : Pos} {a b : Expr} {da db : DE}
theorem zs_par {i j : Nat} {x y : Str} {px py pt : Pos} {kt k2 pt2} (hc : X.calm = true) (hN : X.N.Nodup) (ha : ZE X a da) (hb : ZE X b db) (hi : X.N[i]? = some x := by rfl) (hj : X.N[j]? = some y := by rfl) (hij : i ≠ j := by decide)
    (hx : X.env.scope.names.lookup x = some .local := by rfl) (hy : X.env.scope.names.lookup y = some .local := by rfl)
    (hw : swappedStores [.Tuple [.Name x px, .Name y py] kt pt] (.Tuple [a, b] k2 pt2) X.env = pure (some [x, y]) := by rfl)
    (hs : swapsWithSole [.Tuple [.Name x px, .Name y py] kt pt] (.Tuple [a, b] k2 pt2) pos.line X.env = pure false := by rfl)
    (hs1 : starEach [a, b] X.env = (false, eval a X.env) :: starEach [b] X.env := by rfl) (hs2 : starEach [b] X.env = (false, eval b X.env) :: starEach [] X.env := by rfl) :
    ZS X (.Assign [.Tuple [.Name x px, .Name y py] kt pt] (.Tuple [a, b] k2 pt2) pos) (sPar i j da db) := fun W tk => ps_weak (ps_par hc hN hi hj hij hx hy ((za_cons ha (za_cons hb za_nil hs2) hs1) W tk) hw hs) fun E σ H ⟨m, B, ρ, S, rs, e, p⟩ => by
  unfold sPar at p
  refine ⟨m, B, ρ, S, rs, e, ?_⟩
  unfold aC
  cases h1 : da ρ S with
  | bad => rw [h1] at p; exact p
  | exc c d S' => rw [h1] at p; exact fun m' H' x v g r hx rv => p m' H' σ x v g r (e.mono g.tr) hx rv
  | ok d S1 =>
    rw [h1] at p
    simp only [R.to_ok, R.bind_ok] at p ⊢
    cases h2 : db ρ S1 with
    | bad => rw [h2] at p; exact p
    | exc c d S' => rw [h2] at p; exact fun m' H' x v g r hx rv => p m' H' σ x v g r (e.mono g.tr) hx rv
    | ok d2 S2 =>
      rw [h2] at p
      refine fun m1 H1 g1 r1 vs rv => ?_
      obtain ⟨v, w, rfl, rv, rw'⟩ := rv.two
      exact ⟨v, w, rfl, p m1 H1 _ g1 r1 (((e.mono g1.tr).set i rv).set j rw')⟩
end
end Z
namespace Z
open PySem L2

/-! ### xs[i] = value -/
def sPut (a o i : DE) : DS := fun ρ S => (a ρ S).to ρ fun d S1 => (o ρ S1).to ρ fun x S2 => (i ρ S2).to ρ fun y S3 => match x, y with
  | .ref n, .int k => match S3[n]? with
    | some (.lst ds) => match ixN ds.length k with
      | some j => .nx ρ (S3.set n (.lst (ds.set j d)))
      | none => .bad
    | _ => .bad
  | _, _ => .bad
section
variable {X : Cx} {pos p1 : Pos} {a o i : Expr} {da dobj di : DE}
theorem zs_put (ha : ZE X a da) (ho : ZE X o dobj) (hi : ZE X i di) (hs : swapsWithSole [.Subscript o i p1] a pos.line X.env = pure false := by rfl) (hw : swappedStores [.Subscript o i p1] a X.env = pure none := by rfl)
    (h1 : (assignEach [.Subscript o i p1] X.env).map (·.2) = [assign (.Subscript o i p1) X.env] := by rfl)
    (hg : ∀ v, assign (.Subscript o i p1) X.env v = (do
      let ov ← holding [v] (eval o X.env)
      let iv ← holding [v, ov] (eval i X.env)
      standAt p1
      holding [v, ov, iv] (setItem ov iv v)
      release [v, ov, iv] []) := by intro _; rfl) : ZS X (.Assign [.Subscript o i p1] a pos) (sPut da dobj di) := fun W tk =>
  ps_weak (ps_asg (ha W tk) (pg_sub (ho W tk) (hi W tk) set_list hg) hs hw h1) fun E σ H ⟨m, B, ρ, S, rs, e, p⟩ =>
    tE.takeS rs e p fun d S1 m1 H1 v g1 r1 e1 rd p1 => tE.takeS r1 e1 p1 fun x S2 m2 H2 xv g2 r2 e2 rx p2 => tE.takeS r2 e2 p2 fun y S3 m3 H3 yv g3 r3 e3 ry p3 => by
      cases x <;> try exact p3.elim
      rename_i n
      cases y <;> try exact p3.elim
      rename_i k
      have rd3 := rd.mono (g2.tr.trans g3.tr)
      have rx3 := rx.mono g3.tr
      unfold RD at rx3 ry
      obtain ⟨q, rfl, hq⟩ := rx3
      simp only at p3
      split at p3
      · rename_i ds hn
        split at p3
        · rename_i j hj
          obtain ⟨vs, hv, rv⟩ := r3.ob n q _ hq hn
          refine ⟨q, vs, k, j, rfl, ry, hv, by rw [← rv.len]; exact hj, ?_⟩
          obtain ⟨g4, r4⟩ := r3.put (u := .lst (vs.set j v)) (o := .lst (ds.set j d)) hq fun H' g h' => ⟨_, h', RDs.set j (RDs.mono g.tr _ _ rv) (rd3.mono g.tr)⟩
          exact p3 m3 _ σ g4 r4 (e3.mono g4.tr)
        · exact p3.elim
      · exact p3.elim
end

/-! ### methods of a list of the store -/
def isL (S : Sto) : D → Bool
  | .ref n => match S[n]? with
    | some (.lst _) => true
    | _ => false
  | _ => false
def eBM (f : D → List D → Sto → R D) (o : DE) (r : DA) : DE := fun ρ S => (o ρ S).bind fun d S1 => if isL S1 d = true then (r ρ S1).bind fun ds S2 => f d ds S2 else .bad
def OkM (K : PySem.W.Frag) (r : V → List V → Hp → VK → Prop) (f : D → List D → Sto → R D) : Prop := ∀ m B H S d ds x vs (W : Value → Option Addr → Hp → Prop) (Q : VK), RS K m B H S → RD K m B H d x → RDs K m B H ds vs → Post K m B H W (fun d _ m' H' => ∀ v, RD K m' B H' d v → Q v H') (f d ds S) → r x vs H Q
theorem isL_ty {K : PySem.W.Frag} {m B : List Addr} {H : Hp} {S : Sto} {d : D} {v : V} (rs : RS K m B H S) (rd : RD K m B H d v) (h : isL S d = true) : tyV K "list" v H := by
  cases d <;> try (cases h; done)
  rename_i n
  unfold RD at rd
  obtain ⟨a, rfl, q⟩ := rd
  simp only [isL] at h
  split at h
  · rename_i ds hn
    obtain ⟨vs, hv, rv⟩ := rs.ob n a _ q hn
    exact .inl ⟨rfl, vs, SqL.of hv⟩
  · cases h
section
variable {X : Cx} {pos apos : Pos} {o e : Expr} {es : List Expr} {dobj : DE} {t : DA} {nm : Str} {id : String} {r : V → List V → Hp → VK → Prop} {f : D → List D → Sto → R D}
theorem ze_bm (sl : Slot "list" nm id) (hty : typeOf (.builtin id) = pure (.type "method_descriptor")) (hm : MtR X id r) (ok : OkM X.K r f) (ho : ZE X o dobj) (ha : ZA X (e :: es) t) (hb : attributeBase o nm X.env (eval o X.env) = eval o X.env := by rfl)
    (hfew : ((backTo pos (starEach (e :: es) X.env)).all (fun x => !x.1) && (backToKw pos (keywordEach [] X.env)).all (fun x => x.1.isSome) && decide ((e :: es).length + ([] : List Keyword).length + (if ([] : List Keyword).isEmpty then 0 else 1) < 30)) = true := by rfl)
    (hl : (apos.endLine == pos.line) = true := by rfl) (hs : starEach (e :: es) X.env = (false, eval e X.env) :: starEach es X.env := by rfl) (hp : (backTo pos (starEach es X.env)).any (·.1) = false := by rfl) : ZE X (.Call (.Attribute o nm apos) (e :: es) [] pos) (eBM f dobj t) := fun W tk =>
  pe_weak (pe_bm PySem.F.plainAttrs_list sl hty hm (ho W tk) (ha W tk) hb hfew hl hs hp) fun σ H Q ⟨m, B, ρ, S, rs, e, p⟩ => tE.takeA rs e p fun d S1 m1 H1 v g1 r1 e1 rd p1 => by
    split at p1
    · rename_i hL
      exact ⟨isL_ty r1 rd hL, tAr.take r1 e1 p1 fun ds S2 m2 H2 vs g2 r2 e2 rds p2 => ok m2 B H2 S2 d ds v vs _ Q r2 (rd.mono g2.tr) rds p2⟩
    · exact p1.elim
theorem ze_bm0 (sl : Slot "list" nm id) (hty : typeOf (.builtin id) = pure (.type "method_descriptor")) (hm : MtR X id r) (ok : OkM X.K r f) (ho : ZE X o dobj) (hb : attributeBase o nm X.env (eval o X.env) = eval o X.env := by rfl) (hl : (apos.endLine == pos.line) = true := by rfl) :
    ZE X (.Call (.Attribute o nm apos) [] [] pos) (eBM f dobj aN) := fun W tk =>
  pe_weak (pe_bm0 PySem.F.plainAttrs_list sl hty hm (ho W tk) hb hl) fun σ H Q ⟨m, B, ρ, S, rs, e, p⟩ => tE.takeA rs e p fun d S1 m1 H1 v g1 r1 e1 rd p1 => by
    split at p1
    · rename_i hL
      exact ⟨isL_ty r1 rd hL, ok m1 B H1 S1 d [] v [] _ Q r1 rd RDs.nil p1⟩
    · exact p1.elim
end
def fApp : D → List D → Sto → R D
  | .ref n, [x], S => match S[n]? with
    | some (.lst ds) => if ds.length < 16777216 then .ok .non (S.set n (.lst (ds ++ [x]))) else .bad
    | _ => .bad
  | _, _, _ => .bad
def fPop : D → List D → Sto → R D
  | .ref n, [], S => match S[n]? with
    | some (.lst ds) => match ds[ds.length - 1]? with
      | some x => .ok x (S.set n (.lst ds.dropLast))
      | none => .bad
    | _ => .bad
  | _, _, _ => .bad
section
variable {K : PySem.W.Frag}
theorem okApp : OkM K rAppend fApp := by
  intro m B H S d ds x vs W Q rs rd rds p
  cases d <;> try exact p.elim
  rename_i n
  match ds, rds, p with
  | [], _, p => exact p.elim
  | _ :: _ :: _, _, p => exact p.elim
  | [y], rds, p =>
    obtain ⟨w, rfl, rw'⟩ := rds.one
    unfold RD at rd
    obtain ⟨a, rfl, hq⟩ := rd
    simp only [fApp] at p
    split at p
    · rename_i ds hn
      split at p
      · rename_i hz
        obtain ⟨us, hv, rv⟩ := rs.ob n a _ hq hn
        refine ⟨a, us, w, rfl, rfl, hv, by rw [← rv.len, sizeLine_eq]; exact hz, ?_⟩
        obtain ⟨g4, r4⟩ := rs.put (u := .lst (us ++ [w])) (o := .lst (ds ++ [y])) hq fun H' g h' => ⟨_, h', RDs.mono g.tr _ _ (rv.app (RDs.cons rw' RDs.nil))⟩
        exact p m _ g4 r4 _ RDn
      · exact p.elim
    · exact p.elim
theorem RDs.lastx {m B : List Addr} {H : Hp} {ds : List D} {vs : List V} {d : D} (h : RDs K m B H ds vs) (e : ds[ds.length - 1]? = some d) : ∃ v, vs[vs.length - 1]? = some v ∧ RD K m B H d v := by
  rw [← h.len]
  exact h.get e
theorem okPop : OkM K rPop fPop := by
  intro m B H S d ds x vs W Q rs rd rds p
  cases d <;> try exact p.elim
  rename_i n
  match ds, rds, p with
  | _ :: _, _, p => exact p.elim
  | [], rds, p =>
    unfold RDs at rds
    unfold RD at rd
    obtain ⟨a, rfl, hq⟩ := rd
    simp only [fPop] at p
    split at p
    · rename_i ds hn
      split at p
      · rename_i y hy
        obtain ⟨us, hv, rv⟩ := rs.ob n a _ hq hn
        obtain ⟨w, hw, rw'⟩ := rv.lastx hy
        refine ⟨a, us, w, rfl, rds, hv, hw, ?_⟩
        obtain ⟨g4, r4⟩ := rs.put (u := .lst us.dropLast) (o := .lst ds.dropLast) hq fun H' g h' => ⟨_, h', RDs.mono g.tr _ _ rv.dropLast⟩
        exact p m _ g4 r4 w (rw'.mono g4.tr)
      · exact p.elim
    · exact p.elim
end
section
variable {X : Cx} {pos apos : Pos} {o e : Expr} {dobj : DE} {t : DA}
theorem ze_app (ho : ZE X o dobj) (ha : ZA X [e] t) (hb : attributeBase o "append" X.env (eval o X.env) = eval o X.env := by rfl)
    (hfew : ((backTo pos (starEach [e] X.env)).all (fun x => !x.1) && (backToKw pos (keywordEach [] X.env)).all (fun x => x.1.isSome) && decide ([e].length + ([] : List Keyword).length + (if ([] : List Keyword).isEmpty then 0 else 1) < 30)) = true := by rfl)
    (hl : (apos.endLine == pos.line) = true := by rfl) (hs : starEach [e] X.env = (false, eval e X.env) :: starEach [] X.env := by rfl) : ZE X (.Call (.Attribute o "append" apos) [e] [] pos) (eBM fApp dobj t) :=
  ze_bm PySem.F.slot_list_append PySem.F.type_list_append mt_append okApp ho ha hb hfew hl hs
theorem ze_pop (ho : ZE X o dobj) (hb : attributeBase o "pop" X.env (eval o X.env) = eval o X.env := by rfl) (hl : (apos.endLine == pos.line) = true := by rfl) : ZE X (.Call (.Attribute o "pop" apos) [] [] pos) (eBM fPop dobj aN) :=
  ze_bm0 PySem.F.slot_list_pop PySem.F.type_list_pop mt_pop okPop ho hb hl
end

/-! ### o.f = value -/
def putD (f : Str) (d : D) : List (Str × D) → List (Str × D)
  | [] => [(f, d)]
  | p :: r => if p.1 = f then (p.1, d) :: r else p :: putD f d r
theorem RFs.put {K : PySem.W.Frag} {m B : List Addr} {H : Hp} {f : Str} {d : D} {v : V} (h : RD K m B H d v) : ∀ {fs : List (Str × D)} {vs : List (Str × V)}, RFs K m B H fs vs → RFs K m B H (putD f d fs) (putF f v vs)
  | [], _, q => by
    have q' : _ = _ := q
    subst q'
    exact ⟨v, [], rfl, h, rfl⟩
  | p :: fs, _, ⟨x, r, e, h1, h2⟩ => by
    subst e
    unfold putD putF
    by_cases hp : p.1 = f
    · rw [if_pos hp, if_pos hp]
      exact ⟨v, r, rfl, h, h2⟩
    · rw [if_neg hp, if_neg hp]
      exact ⟨x, _, rfl, h1, RFs.put h h2⟩
theorem RFs.len {K : PySem.W.Frag} {m B : List Addr} {H : Hp} : ∀ {fs : List (Str × D)} {vs : List (Str × V)}, RFs K m B H fs vs → fs.length = vs.length
  | [], _, h => by
    have h' : _ = _ := h
    rw [h']
    rfl
  | p :: fs, _, ⟨x, r, e, _, h2⟩ => by
    subst e
    simp [RFs.len h2]
def sAttr (cs : List Addr) (f : Str) (a o : DE) : DS := fun ρ S => (a ρ S).to ρ fun d S1 => (o ρ S1).to ρ fun x S2 => match x with
  | .ref n => match S2[n]? with
    | some (.ins c fs) => if c ∈ cs ∧ fs.length < 1000 then .nx ρ (S2.set n (.ins c (putD f d fs))) else .bad
    | _ => .bad
  | _ => .bad
section
variable {X : Cx} {pos p1 : Pos} {a o : Expr} {da dobj : DE}
theorem zs_attr {cs : List Addr} {f : Str} (hc : NoAtt X.K cs f) (ho : ZE X o dobj) (ha : ZE X a da) (hs : swapsWith a (some (.Attribute o f p1)) pos.line X.env = pure false := by rfl) : ZS X (.Assign [.Attribute o f p1] a pos) (sAttr cs f da dobj) := fun W tk =>
  ps_weak (ps_fld (ho W tk) (ha W tk) hs) fun E σ H ⟨m, B, ρ, S, rs, e, p⟩ => tE.takeS rs e p fun d S1 m1 H1 v g1 r1 e1 rd p1 => tE.takeS r1 e1 p1 fun x S2 m2 H2 xv g2 r2 e2 rx p2 => by
    cases x <;> try exact p2.elim
    rename_i n
    have rd2 := rd.mono g2.tr
    unfold RD at rx
    obtain ⟨q, rfl, hq⟩ := rx
    simp only at p2
    split at p2
    · rename_i c fs hn
      split at p2
      · rename_i hcc
        obtain ⟨dx, vs, hv, rf⟩ := r2.ob n q _ hq hn
        refine ⟨q, c, dx, vs, rfl, hv, (hc c hcc.1).1, (hc c hcc.1).2, by rw [← rf.len]; exact hcc.2, ?_⟩
        obtain ⟨g3, r3⟩ := r2.put (u := .ins c dx (putF f v vs)) (o := .ins c (putD f d fs)) hq fun H' g h' => ⟨dx, _, h', RFs.put (rd2.mono g.tr) (RFs.mono g.tr _ _ rf)⟩
        exact p2 m2 _ σ g3 r3 (e2.mono g3.tr)
      · exact p2.elim
    · exact p2.elim
end

/-! ### a class of one's own, called -/
def eMk (C : Addr) (n : Nat) (F : List D → Sto → R D) (dd : List D) (r : DA) : DE := fun ρ S => (r ρ S).bind fun ds S1 => if (D.ref S1.length :: (ds ++ dd)).length = n then
    (F (.ref S1.length :: (ds ++ dd)) (S1 ++ [.ins C []])).bind fun d S2 => match d with
      | .non => .ok (.ref S1.length) S2
      | _ => .bad
    else .bad
theorem run_mk {X : Cx} {k : Nat} {C f : Addr} {fd : FuncData} {ps : List Str} {sp : Sp} {dvs : List V} {ds : List Value} {W : WX} {pins : List (Addr × Obj)} {σ : L2.St} {H : Hp} {s : Shared} {Q : VK} {us : List Value} {vs : List V} (tk : Takes X W) (M : Mk X.K C f)
    (ok : FnOk X.prog X.w X.K X.mg X.base (L2.CX X.prog X.w) k f fd ps sp) (hr : Room (k + 1) X.A) (hb : Binds X.K fd ps ds) (hd : Vals dvs ds) (I : Inv X pins σ H s) (r : Vals vs us)
    (h : ∀ x dx, H x = none → H dx = none → dx ≠ x → sp (.ref x :: (vs ++ dvs)) (upd (upd H dx (.own x)) x (.ins C dx [])) (fun v H2 => v = .non ∧ Q (.ref x) H2) (WE W σ)) : wpAny (model X.prog X.w) X.A (call (.ref C) us) (EP X pins σ Q) X.xe s := by
  have J := Inv.made (C := C) I
  have go := h (s.heap.objs.size + 1) s.heap.objs.size (I.hok.fresh (Nat.le_succ _)) (I.hok.fresh (Nat.le_refl _)) (Nat.ne_of_lt (Nat.lt_succ_self _))
  have rr : Vals (V.ref (s.heap.objs.size + 1) :: (vs ++ dvs)) (Value.ref (s.heap.objs.size + 1) :: (us ++ ds)) := .cons rfl (r.append hd)
  have len : (Value.ref (s.heap.objs.size + 1) :: us ++ ds).length = ps.length := by
    have q := rr.length
    rw [ok.len _ _ _ _ go] at q
    exact q.symm
  have body := ok.run _ X.stack _ _ ⟨Value.ref (s.heap.objs.size + 1) :: us, []⟩ (Value.ref (s.heap.objs.size + 1) :: (us ++ ds)) _ _ (WE W σ) (hr.make C us []) (J.env0.make C us []) (hb _ (Value.ref (s.heap.objs.size + 1) :: us) J.kIn len) rr go
  refine wpAny_call (make_map (f := f) I.kIn M.makes M.init (beq_iff_eq.mp M.fn) (codeAny_mono body fun r s' z => ?_))
  match r with
  | .error e => exact passAt tk σ _ _ _ e s' J z
  | .ok .next => exact z.elim
  | .ok .brk => exact z.elim
  | .ok .cont => exact z.elim
  | .ok (.ret u) =>
    obtain ⟨v, H', J2, rv, ev, q⟩ := J.after z
    subst ev
    exact ⟨rv, V.ref (s.heap.objs.size + 1), H', J2, rfl, q⟩
section
variable {X : Cx} {pos p0 : Pos} {e : Expr} {es : List Expr} {x : Str} {t : DA} {k n : Nat} {f C : Addr} {fd : FuncData} {ps : List Str} {F : List D → Sto → R D} {dd : List D} {dvs : List V} {ds : List Value}
/-- what a new instance is to the promise of its __init__ -/
theorem mk_sp {K : PySem.W.Frag} {W : WX} {σ : L2.St} {Q : VK} {m B : List Addr} {H : Hp} {S : Sto} {das : List D} {vs : List V} (rs : RS K m B H S) (rd : RDs K m B H das vs)
    (p : Post K m B H (fun c x H' => W c x σ H') (fun d _ m' H' => ∀ v, RD K m' B H' d v → Q v H') (if (D.ref S.length :: das).length = n then (F (.ref S.length :: das) (S ++ [.ins C []])).bind fun d S2 => match d with
      | .non => .ok (.ref S.length) S2
      | _ => .bad
    else .bad)) (x dx : Addr) (hx : H x = none) (hdx : H dx = none) (hne : dx ≠ x) : spI K n F (.ref x :: vs) (upd (upd H dx (.own x)) x (.ins C dx [])) (fun v H2 => v = .non ∧ Q (.ref x) H2) (WE W σ) := by
  split at p
  · rename_i hn
    obtain ⟨g1, r1⟩ := rs.new (u := .own x) hdx
    have hx1 : upd H dx (.own x) x = none := by rw [upd_ne (Ne.symm hne)]; exact hx
    have r2 := r1.ban (u := .ins C dx []) hx1
    have r3 : RS K (m ++ [x]) B (upd (upd H dx (.own x)) x (.ins C dx [])) (S ++ [.ins C []]) := r2.own (r1.notB hx1) ⟨dx, [], upd_same, rfl⟩
    have g2 : Ge m H (m ++ [x]) (upd (upd H dx (.own x)) x (.ins C dx [])) := (g1.trans (r1.new hx1).1).own (nw_none hx)
    have tr : Tr m B H (m ++ [x]) B (upd (upd H dx (.own x)) x (.ins C dx [])) := g2.tr
    have at_ : (m ++ [x])[S.length]? = some x := by
      rw [← rs.len, List.getElem?_append_right (Nat.le_refl _)]
      simp
    refine ⟨m ++ [x], B, .ref S.length :: das, S ++ [.ins C []], r3, RDs.cons (by unfold RD; exact ⟨x, rfl, at_⟩) (RDs.mono tr _ _ rd), hn, ?_⟩
    refine (Post.bind (Post.ge p g2)).imp fun d S2 m2 H2 g3 r4 p2 v rv => ?_
    cases d <;> try exact p2.elim
    unfold RD at rv
    refine ⟨rv, ?_⟩
    have p3 : Post K m2 B H2 _ _ (R.ok (D.ref S.length) S2) := p2
    refine p3.now r4 _ ?_
    unfold RD
    exact ⟨x, rfl, (g3.tr (B := B)).at_ _ _ at_⟩
  · exact p.elim
theorem ze_mk (M : Mk X.K C f) (ok : FnOk X.prog X.w X.K X.mg X.base (L2.CX X.prog X.w) k f fd ps (spI X.K n F)) (hr : Room (k + 1) X.A) (hm : X.mg x = some (.ref C)) (hb : Binds X.K fd ps ds) (hd : Vals dvs ds) (hdd : ∀ m B H, RDs X.K m B H dd dvs) (ha : ZA X (e :: es) t) (hg : Gl X x := by rfl) (hdb : (x == ("__debug__" : Str)) = false := by decide)
    (he : starEach (e :: es) X.env = (false, eval e X.env) :: starEach es X.env := by rfl) (hpl : (backTo pos (starEach es X.env)).any (·.1) = false := by rfl) : ZE X (.Call (.Name x p0) (e :: es) [] pos) (eMk C n F dd t) := fun W tk => ⟨fun pins s σ H Q I ⟨m, B, ρ, S, rs, e, p⟩ => by
  refine wpAny_Call_Name_kw (ld_glob I hg hm ?_ hdb)
  refine PySem.W.callWith_K (h₀ := X.base) I.ok.mod.kin M.kp (thn ((ha W tk).run pos pins s σ H (fun vs H1 => ∀ y dx, H1 y = none → H1 dx = none → dx ≠ y → spI X.K n F (.ref y :: (vs ++ dvs)) (upd (upd H1 dx (.own y)) y (.ins C dx [])) (fun v H2 => v = .non ∧ Q (.ref y) H2) (WE W σ)) I ?_) fun us s1 hh => ?_) he hpl
  · refine tAr.take rs e p fun das S1 m1 H1 vs g1 r1 e1 rds p1 => ?_
    exact mk_sp r1 (rds.app (hdd _ _ _)) p1
  · obtain ⟨vs, H1, I1, r, q⟩ := hh
    exact ⟨I1.kIn, run_mk tk M ok hr hb hd I1 r q⟩⟩
theorem ze_mk0 (M : Mk X.K C f) (ok : FnOk X.prog X.w X.K X.mg X.base (L2.CX X.prog X.w) k f fd ps (spI X.K n F)) (hr : Room (k + 1) X.A) (hm : X.mg x = some (.ref C)) (hb : Binds X.K fd ps ds) (hd : Vals dvs ds) (hdd : ∀ m B H, RDs X.K m B H dd dvs) (hg : Gl X x := by rfl) (hdb : (x == ("__debug__" : Str)) = false := by decide) :
    ZE X (.Call (.Name x p0) [] [] pos) (eMk C n F dd aN) := fun W tk => ⟨fun pins s σ H Q I ⟨m, B, ρ, S, rs, e, p⟩ => by
  refine wpAny_Call_Name_kw (ld_glob I hg hm ?_ hdb)
  exact PySem.W.callWith_K0 I.kIn M.kp (run_mk (us := []) (vs := []) tk M ok hr hb hd I .nil (mk_sp (das := [] ++ dd) rs (by simpa using hdd m B H) p))⟩
end

/-! ### what is raised nowhere, what is never reached -/
theorem zs_bad {X : Cx} {st : Stmt} : ZS X st fun _ _ => .bad := fun W tk => ⟨fun pins s σ H D I ⟨m, B, ρ, S, rs, e, p⟩ => p.elim⟩
theorem ze_bad {X : Cx} {e : Expr} : ZE X e fun _ _ => .bad := fun W tk => ⟨fun pins s σ H D I ⟨m, B, ρ, S, rs, e, p⟩ => p.elim⟩
end Z
namespace Z
open PySem PySem.Spec PyProof.Rows L2

/-! ### enumerate of a tuple -/
section
theorem meets_enum1 {v : Value} {o : Obj} {H : Heap → Prop} (B : Begins v o H) :
    Meets (Builtin.«enumerate.__new__» ⟨[.type "enumerate", v], []⟩) (fun _ R s => H s.heap ∧
      R (.ok (.ret (.ref (s.heap.push o).objs.size))) { s with heap := (s.heap.push o).push { cls := .type "enumerate", data := .fields #[.none, .bool false, .ref s.heap.objs.size, rawInt 0, .none, .none] } }) :=
  .of_wp fun prog w A R s h => by
    obtain ⟨hp, gs, dr, tk, os⟩ := s
    obtain ⟨hH, hR⟩ := h
    have sub := sub_enumerate
    have it : ∀ {A' : Around} {E : Value → Shared → Prop} {Q : Value → Shared → Prop}, Q (.ref hp.objs.size) ⟨hp.push o, gs, dr, tk, os⟩ → wpAny (model prog w) A' (pyIter v) Q E ⟨hp, gs, dr, tk, os⟩ :=
      fun q => B.iter prog w _ _ ⟨hp, gs, dr, tk, os⟩ _ hH q
    wp_walk using it
    refine wpAny_stack_any fun st => wpAny_pure ?_
    split
    · rename_i c _ _ _ _ _
      cases (c == Value.type "enumerate") <;> (wp_walk using it; exact ⟨_, rfl, hR⟩)
    · wp_walk using it
      exact ⟨_, rfl, hR⟩
end
section
variable {prog : Program} {w : World} {A : Around} {E : Value → Shared → Prop} {s : Shared}
theorem call_enum1 {v : Value} {o : Obj} {H : Heap → Prop} {Q : Value → Shared → Prop} (B : Begins v o H) (h1 : H s.heap)
    (h : ∀ h', IsEnum h' (s.heap.objs.size + 1) s.heap.objs.size 0 .none → h'.get? s.heap.objs.size = some o → (∀ b o, s.heap.get? b = some o → h'.get? b = some o) → Q (.ref (s.heap.objs.size + 1)) { s with heap := h' }) :
    wpAny (model prog w) A (call (.type "enumerate") [v]) Q E s := by
  refine callType_new F.called_enumerate (by decide) (F.typeCall_enumerate_1 _) (F.newCall_enumerate_1 _) (fun obj => F.args_object_init_2 obj _) F.entry_enumerate_new (meets_enum1 B) ⟨h1, ?_⟩
  show _ ∧ _
  have z1 : (s.heap.push o).objs.size = s.heap.objs.size + 1 := Heap.size_push ..
  rw [z1]
  have e1 : IsEnum ((s.heap.push o).push { cls := .type "enumerate", data := .fields #[.none, .bool false, .ref s.heap.objs.size, rawInt 0, .none, .none] }) (s.heap.objs.size + 1) s.heap.objs.size 0 .none := by
    have q := Heap.get?_push_size (s.heap.push o) (o := { cls := .type "enumerate", data := .fields #[.none, .bool false, .ref s.heap.objs.size, rawInt 0, .none, .none] }) rfl
    rw [z1] at q
    exact q
  exact ⟨⟨_, e1, rfl⟩, h _ e1 (Heap.get?_push_of_some _ (Heap.get?_push_size _ B.free)) fun b o x => Heap.get?_push_of_some _ (Heap.get?_push_of_some _ x)⟩
end
/-- the tuple at a at each turn, each item in a new pair -/
def IteT (K : PySem.W.Frag) (a : Addr) : It :=
  ⟨fun i H => ∃ (xs : List V) (x : V), SqT K H a xs ∧ xs[i]? = some x, fun i H v H' => ∃ T x, v = .ref T ∧ H T = none ∧ H' = upd H T (.tup [.int (i : Nat), x]) ∧ ∀ xs, SqT K H a xs → xs[i]? = some x, fun i H => ∃ xs : List V, SqT K H a xs ∧ xs.length ≤ i⟩
theorem turn_enumT {P : Program} {w : World} {K : PySem.W.Frag} {elts : List Expr} {kk : Nat} {tpos : Pos} (a e it : Addr) :
    Turn P w K (.Tuple elts kk tpos) (IteT K a) [e, it] e (fun i h => (∃ old, IsEnum h e it ((i : Nat) : Int) old) ∧ h.IsTupleIter it a i ∧ e ≠ it) where
  mem := List.mem_cons_self ..
  obj := fun i h st b hb => by
    obtain ⟨⟨old, he⟩, ⟨o, ho, hc, hd⟩, _⟩ := st
    rcases List.mem_cons.mp hb with z | z
    · rw [z]; exact ⟨_, he, fun v q => nomatch q⟩
    · rw [List.mem_singleton.mp z]; exact ⟨o, ho, fun v q => by rw [hd] at q; cases q⟩
  keep := fun i h h' st k => by
    obtain ⟨⟨old, he⟩, hi, ne⟩ := st
    exact ⟨⟨old, k e (List.mem_cons_self ..) _ he⟩, hi.at fun o q => k it (List.mem_cons_of_mem _ (List.mem_cons_self ..)) o q, ne⟩
  item := by
    intro X hP hw hK hc i pins s σ H E I hf st hg
    subst hP hw hK
    obtain ⟨⟨old, he⟩, hit, hne⟩ := st
    obtain ⟨xs, x, hq, hx⟩ := hg
    obtain ⟨its, rv, p, hz⟩ := I.tuple hq
    obtain ⟨u, hu, ru⟩ := rv.get hx
    have l1 : e < s.heap.objs.size := Heap.lt_size he
    have l2 : it < s.heap.objs.size := by obtain ⟨_, q, _⟩ := hit; exact Heap.lt_size q
    have nae : a ≠ e := fun z => by
      obtain ⟨o, ho, hc', _⟩ := id p
      rw [z, he] at ho
      cases ho
      exact absurd (show Value.type "enumerate" = .type "tuple" from hc') (by decide)
    have nai : a ≠ it := fun z => by
      obtain ⟨o, ho, hc', _⟩ := id p
      obtain ⟨o2, ho2, hc2, _⟩ := id hit
      rw [z, ho2] at ho
      cases ho
      rw [hc2] at hc'
      exact absurd hc' (by decide)
    have nef : e ∉ [it, a] := by simp [hne, Ne.symm nae]
    have hi : i < its.toArray.size := by simp; rw [← rv.length]; exact (List.getElem?_eq_some_iff.mp hx).1
    refine wpAny_pyNext_enum_itemC (Draws.tuple (A := X.A.in1) (I.ok.hd hc) it a nai its.toArray) he ⟨hit, p⟩ hi hne nef fun y h' tk hy ho hst hT hsz hk => ?_
    have hy' : its.toArray[i]? = some y := hy
    have ey : y = u := by simp at hy'; rw [hu] at hy'; cases hy'; rfl
    subst ey
    refine ⟨_, rfl, wpAny_letOwnedTupleGo_enum (s := { s with heap := h', toks := tk + 1 }) ho fun h2 he' sb => ?_⟩
    have hT2 : h2.get? s.heap.objs.size = some { cls := .type "tuple", data := .seq #[.int i tk, y] } := (sb.2 _ (Nat.ne_of_gt l1)).trans hT
    have new : ObjOk X.prog X.w (upd H s.heap.objs.size (.tup [.int (i : Nat), x])) h2 s.heap.objs.size (.tup [.int (i : Nat), x]) :=
      ⟨by show 2 ≤ sizeLine; decide, [.int i tk, y], .cons ⟨_, rfl⟩ (.cons ru .nil), ⟨_, hT2, rfl, _, rfl⟩⟩
    have J : Inv X pins σ (upd H s.heap.objs.size (.tup [.int (i : Nat), x])) { s with heap := h2, toks := tk + 1 } :=
      I.turnedNew (ch := [e, it]) (fun b ob hb q => (sb.2 b (fun z => hb (by simp [z]))).trans (hk b ob (fun z => hb (by simp [z])) (fun z => hb (by simp [z])) q)) hf (Nat.le_refl _) new
    refine ⟨.ref s.heap.objs.size, _, J, rfl, ⟨_, x, rfl, I.hok.fresh (Nat.le_refl _), rfl, fun ys hy => by rw [I.tuple_inj hy hq]; exact hx⟩, ⟨⟨y, ?_⟩, hst.1.at fun o q => (sb.2 it (Ne.symm hne)).trans q, hne⟩, fun b hb => ?_⟩
    · have e2 : ((i + 1 : Nat) : Int) = (i : Int) + 1 := by omega
      rw [e2]
      exact he'
    · have lb : b < s.heap.objs.size := by
        rcases List.mem_cons.mp hb with z | z
        · rw [z]; exact l1
        · rw [List.mem_singleton.mp z]; exact l2
      rw [upd_ne (Nat.ne_of_lt lb)]
      exact (hf b hb).1
  done := by
    intro X hP hw hK hc i pins s σ H E I hf st hg
    subst hP hw hK
    obtain ⟨⟨old, he⟩, hit, hne⟩ := st
    obtain ⟨xs, hq, hx⟩ := hg
    obtain ⟨its, rv, p, hz⟩ := I.tuple hq
    obtain ⟨f0, f1, f2, f3, f4, f5⟩ := hf it (by simp)
    have hl := rv.length
    have hT : s.TypeIs (.ref e) "enumerate" := ⟨_, he, rfl⟩
    unfold pyNext
    refine wpAny_bind (wpAny_attempt (wpAny_callSpecial?_slot (name := Str.ofString "__next__") hT F.slot_enumerate_next
      (wpAny_call_entry F.slot_enumerate_next hT F.entry_enumerate_next ?_ (F.args_enumerate_next_1 _))))
    show wpAny _ _ (field (.ref e) 2 >>= _) _ _ _
    refine wpAny_bind (wpAny_field he rfl (x := .ref it) rfl ?_)
    refine wpAny_bind (wpAny_nextOf_tuple_end (I.ok.hd hc) hit p (by simp; omega) fun h' x eb hx' => ?_)
    obtain ⟨o, ho, hco⟩ := hx'
    refine wpAny_bind (wpAny_isInstance (T := "StopIteration") (b := true) ⟨o, ho, hco⟩ isSubtype_stop ?_)
    exact wpAny_pure ⟨rfl, I.turned (t' := s.toks) (fun b o hb q => eb b o hb q) f0 f1 f3 f4 f5⟩
  self := fun A i s Q E st h => by
    obtain ⟨⟨_, he⟩, _⟩ := st
    exact wpAny_pyIter_enum he h
/-! ### what is walked, told by what it gives -/
/-- the thing at a has the items ds as long as the store is so -/
def SY (K : PySem.W.Frag) (Sq : Hp → Addr → List V → Prop) (a : Addr) (m0 B0 : List Addr) (H0 : Hp) (ds : List D) (chk : Sto → Prop) : Prop :=
  ∀ m B H S, Tr m0 B0 H0 m B H → RS K m B H S → chk S → ∃ vs, Sq H a vs ∧ RDs K m B H ds vs
def enumF (k : Nat) : List D → List D
  | [] => []
  | d :: ds => .tup [.int (k : Nat), d] :: enumF (k + 1) ds
theorem enumF_len : ∀ (k : Nat) (ds : List D), (enumF k ds).length = ds.length
  | _, [] => rfl
  | k, d :: ds => by simp [enumF, enumF_len (k + 1) ds]
theorem enumF_get : ∀ (ds : List D) (k i : Nat) (d : D), ds[i]? = some d → (enumF k ds)[i]? = some (.tup [.int ((k + i : Nat) : Int), d])
  | [], _, _, _, h => by simp at h
  | d :: ds, k, 0, _, h => by simp at h; simp [enumF, h]
  | d :: ds, k, i + 1, _, h => by
    simp at h
    simp only [enumF, List.getElem?_cons_succ]
    rw [enumF_get ds (k + 1) i _ h]
    congr 5
    omega
def zipD : List D → List D → List D
  | x :: xs, y :: ys => .tup [x, y] :: zipD xs ys
  | _, _ => []
theorem zipD_len : ∀ (xs ys : List D), (zipD xs ys).length = min xs.length ys.length
  | [], _ => by simp [zipD]
  | _ :: _, [] => by simp [zipD]
  | x :: xs, y :: ys => by simp [zipD, zipD_len xs ys]
theorem zipD_get : ∀ (xs ys : List D) (i : Nat) (x y : D), xs[i]? = some x → ys[i]? = some y → (zipD xs ys)[i]? = some (.tup [x, y])
  | [], _, _, _, _, h, _ => by simp at h
  | _ :: _, [], _, _, _, _, h => by simp at h
  | x :: xs, y :: ys, 0, _, _, h, h' => by simp_all [zipD]
  | x :: xs, y :: ys, i + 1, _, _, h, h' => by
    simp at h h'
    simp only [zipD, List.getElem?_cons_succ]
    exact zipD_get xs ys i _ _ h h'
section
variable {K : PySem.W.Frag} {m0 B0 : List Addr} {H0 : Hp} {ds es : List D} {a b : Addr} {chk chk2 : Sto → Prop}
theorem RDs.getD {m B : List Addr} {H : Hp} {vs : List V} {i : Nat} (r : RDs K m B H ds vs) (h : i < ds.length) : ∃ v, vs[i]? = some v ∧ RD K m B H (ds[i]) v := r.get (by simp [h])
theorem new_pair {m B : List Addr} {H : Hp} {S : Sto} {T : Addr} {xs : List V} {us : List D} (rs : RS K m B H S) (hT : H T = none) (r : RDs K m B H us xs) : (∀ b o, H b = some o → upd H T (.tup xs) b = some o) ∧ RD K m B (upd H T (.tup xs)) (.tup us) (.ref T) := by
  refine ⟨new_ext hT, ?_⟩
  unfold RD
  exact ⟨T, xs, rfl, .inl ⟨rs.notin hT, rs.notB hT, .inl upd_same⟩, RDs.mono (rs.new hT).1.tr _ _ r⟩
theorem jy_enum (s : SY K (SqL K) a m0 B0 H0 ds chk) : JY K (Ite K a) m0 B0 H0 (enumF 0 ds) chk where
  go := fun i m B H S t rs hc hi => by
    rw [enumF_len] at hi
    obtain ⟨vs, q, r⟩ := s m B H S t rs hc
    obtain ⟨v, hv, _⟩ := r.getD hi
    exact ⟨vs, v, q, hv⟩
  yl := fun i m B H S x H' d t rs hc hd y => by
    have hi := (List.getElem?_eq_some_iff.mp hd).1
    rw [enumF_len] at hi
    obtain ⟨vs, q, r⟩ := s m B H S t rs hc
    obtain ⟨v, hv, rv⟩ := r.getD hi
    obtain ⟨T, w, rfl, hT, rfl, hall⟩ := y
    have e := hall vs q
    rw [hv] at e
    cases e
    rw [enumF_get ds 0 i ds[i] (by simp [hi]), Nat.zero_add] at hd
    cases hd
    exact new_pair rs hT (RDs.cons (RDi _) (RDs.cons rv RDs.nil))
  st := fun i m B H S t rs hc hi => by
    rw [enumF_len] at hi
    obtain ⟨vs, q, r⟩ := s m B H S t rs hc
    exact ⟨vs, q, by rw [← r.len]; exact hi⟩
theorem jy_enumT (s : SY K (SqT K) a m0 B0 H0 ds chk) : JY K (IteT K a) m0 B0 H0 (enumF 0 ds) chk where
  go := fun i m B H S t rs hc hi => by
    rw [enumF_len] at hi
    obtain ⟨vs, q, r⟩ := s m B H S t rs hc
    obtain ⟨v, hv, _⟩ := r.getD hi
    exact ⟨vs, v, q, hv⟩
  yl := fun i m B H S x H' d t rs hc hd y => by
    have hi := (List.getElem?_eq_some_iff.mp hd).1
    rw [enumF_len] at hi
    obtain ⟨vs, q, r⟩ := s m B H S t rs hc
    obtain ⟨v, hv, rv⟩ := r.getD hi
    obtain ⟨T, w, rfl, hT, rfl, hall⟩ := y
    have e := hall vs q
    rw [hv] at e
    cases e
    rw [enumF_get ds 0 i ds[i] (by simp [hi]), Nat.zero_add] at hd
    cases hd
    exact new_pair rs hT (RDs.cons (RDi _) (RDs.cons rv RDs.nil))
  st := fun i m B H S t rs hc hi => by
    rw [enumF_len] at hi
    obtain ⟨vs, q, r⟩ := s m B H S t rs hc
    exact ⟨vs, q, by rw [← r.len]; exact hi⟩
theorem jy_zipT (s : SY K (SqT K) a m0 B0 H0 ds chk) (s2 : SY K (SqT K) b m0 B0 H0 es chk2) : JY K (RZ.ItzT K a b) m0 B0 H0 (zipD ds es) fun S => chk S ∧ chk2 S where
  go := fun i m B H S t rs hc hi => by
    rw [zipD_len] at hi
    obtain ⟨vs, q, r⟩ := s m B H S t rs hc.1
    obtain ⟨ws, q2, r2⟩ := s2 m B H S t rs hc.2
    obtain ⟨v, hv, _⟩ := r.getD (i := i) (by omega)
    obtain ⟨w, hw, _⟩ := r2.getD (i := i) (by omega)
    exact ⟨vs, ws, v, w, q, q2, hv, hw⟩
  yl := fun i m B H S x H' d t rs hc hd y => by
    have hi := (List.getElem?_eq_some_iff.mp hd).1
    rw [zipD_len] at hi
    obtain ⟨vs, q, r⟩ := s m B H S t rs hc.1
    obtain ⟨ws, q2, r2⟩ := s2 m B H S t rs hc.2
    have h1 : i < ds.length := by omega
    have h2 : i < es.length := by omega
    obtain ⟨v, hv, rv⟩ := r.getD h1
    obtain ⟨w, hw, rw'⟩ := r2.getD h2
    obtain ⟨T, x', y', rfl, hT, rfl, hall, hall2⟩ := y
    have e := hall vs q
    rw [hv] at e
    cases e
    have e := hall2 ws q2
    rw [hw] at e
    cases e
    rw [zipD_get ds es i ds[i] es[i] (by simp [h1]) (by simp [h2])] at hd
    cases hd
    exact new_pair rs hT (RDs.cons rv (RDs.cons rw' RDs.nil))
  st := fun i m B H S t rs hc hi => by
    rw [zipD_len] at hi
    obtain ⟨vs, q, r⟩ := s m B H S t rs hc.1
    obtain ⟨ws, q2, r2⟩ := s2 m B H S t rs hc.2
    exact ⟨vs, ws, q, q2, by rw [← r.len, ← r2.len]; omega⟩
theorem jy_zip (s : SY K (SqL K) a m0 B0 H0 ds chk) (s2 : SY K (SqL K) b m0 B0 H0 es chk2) : JY K (Itz K a b) m0 B0 H0 (zipD ds es) fun S => chk S ∧ chk2 S where
  go := fun i m B H S t rs hc hi => by
    rw [zipD_len] at hi
    obtain ⟨vs, q, r⟩ := s m B H S t rs hc.1
    obtain ⟨ws, q2, r2⟩ := s2 m B H S t rs hc.2
    obtain ⟨v, hv, _⟩ := r.getD (i := i) (by omega)
    obtain ⟨w, hw, _⟩ := r2.getD (i := i) (by omega)
    exact ⟨vs, ws, v, w, q, q2, hv, hw⟩
  yl := fun i m B H S x H' d t rs hc hd y => by
    have hi := (List.getElem?_eq_some_iff.mp hd).1
    rw [zipD_len] at hi
    obtain ⟨vs, q, r⟩ := s m B H S t rs hc.1
    obtain ⟨ws, q2, r2⟩ := s2 m B H S t rs hc.2
    have h1 : i < ds.length := by omega
    have h2 : i < es.length := by omega
    obtain ⟨v, hv, rv⟩ := r.getD h1
    obtain ⟨w, hw, rw'⟩ := r2.getD h2
    obtain ⟨T, x', y', rfl, hT, rfl, hall, hall2⟩ := y
    have e := hall vs q
    rw [hv] at e
    cases e
    have e := hall2 ws q2
    rw [hw] at e
    cases e
    rw [zipD_get ds es i ds[i] es[i] (by simp [h1]) (by simp [h2])] at hd
    cases hd
    exact new_pair rs hT (RDs.cons rv (RDs.cons rw' RDs.nil))
  st := fun i m B H S t rs hc hi => by
    rw [zipD_len] at hi
    obtain ⟨vs, q, r⟩ := s m B H S t rs hc.1
    obtain ⟨ws, q2, r2⟩ := s2 m B H S t rs hc.2
    exact ⟨vs, ws, q, q2, by rw [← r.len, ← r2.len]; omega⟩
end
/-- a list that may be walked: its items, and what the store must keep -/
def lstC (S : Sto) : D → Option (List D × (Sto → Prop))
  | .lst ds => some (ds, fun _ => True)
  | .scr ds => some (ds, fun _ => True)
  | .ref n => match S[n]? with
    | some (.lst ds) => some (ds, fun S' => S'[n]? = some (.lst ds))
    | _ => none
  | _ => none
section
variable {K : PySem.W.Frag} {m B : List Addr} {H : Hp} {S : Sto}
theorem lstC_ok {d : D} {v : V} {p : List D × (Sto → Prop)} (rs : RS K m B H S) (rd : RD K m B H d v) (h : lstC S d = some p) : ∃ a, v = .ref a ∧ SY K (SqL K) a m B H p.1 p.2 ∧ p.2 S := by
  cases d <;> try (cases h; done)
  · unfold RD at rd
    obtain ⟨a, vs, rfl, f, r⟩ := rd
    cases h
    exact ⟨a, rfl, fun m' B' H' S' t _ _ => ⟨vs, (f.mono t).sq, RDs.mono t _ _ r⟩, trivial⟩
  · unfold RD at rd
    obtain ⟨a, vs, rfl, f, r⟩ := rd
    cases h
    exact ⟨a, rfl, fun m' B' H' S' t _ _ => ⟨vs, (f.mono t).sq, RDs.mono t _ _ r⟩, trivial⟩
  · rename_i n
    unfold RD at rd
    obtain ⟨a, rfl, q⟩ := rd
    simp only [lstC] at h
    split at h
    · rename_i ds hn
      cases h
      refine ⟨a, rfl, fun m' B' H' S' t rs' hc => ?_, hn⟩
      obtain ⟨vs, ea, rv⟩ := rs'.ob n a _ (t.at_ _ _ q) hc
      exact ⟨vs, SqL.of ea, rv⟩
    · cases h
theorem tupC_ok {ds : List D} {v : V} (rd : RD K m B H (.tup ds) v) : ∃ a, v = .ref a ∧ SY K (SqT K) a m B H ds fun _ => True := by
  unfold RD at rd
  obtain ⟨a, vs, rfl, f, r⟩ := rd
  exact ⟨a, rfl, fun m' B' H' S' t _ _ => ⟨vs, (f.mono t).sq, RDs.mono t _ _ r⟩⟩
end
def iEnumD (a : DE) : DI := fun ρ S => (a ρ S).bind fun d S1 => match d with
  | .tup ds => .ok (enumF 0 ds, fun _ => True) S1
  | d => match lstC S1 d with
    | some p => .ok (enumF 0 p.1, p.2) S1
    | none => .bad
def fEnum : List D → Sto → R (List D × (Sto → Prop))
  | [.tup ds], S1 => .ok (enumF 0 ds, fun _ => True) S1
  | [d], S1 => match lstC S1 d with
    | some p => .ok (enumF 0 p.1, p.2) S1
    | none => .bad
  | _, _ => .bad
def fZip : List D → Sto → R (List D × (Sto → Prop))
  | [.tup xs, .tup ys], S => .ok (zipD xs ys, fun _ => True ∧ True) S
  | [d, e], S => match lstC S d, lstC S e with
    | some p, some q => .ok (zipD p.1 q.1, fun S' => p.2 S' ∧ q.2 S') S
    | _, _ => .bad
  | _, _ => .bad
def iCall (f : List D → Sto → R (List D × (Sto → Prop))) (a : DA) : DI := fun ρ S => (a ρ S).bind f
section
variable {X : Cx} {tg e e2 : Expr} {da db : DE} {t : DA} {p pos tpos : Pos} {elts : List Expr} {kk : Nat}
theorem zi_enum (hm : X.mg "enumerate" = none) (ha : ZA X [e] t) (hg : Gl X "enumerate" := by rfl) (hs : starEach [e] X.env = [(false, eval e X.env)] := by rfl) : ZI X (.Tuple elts kk tpos) (.Call (.Name "enumerate" p) [e] [] pos) (iCall fEnum t) := fun W tk => ⟨fun pins s σ H Q I ⟨m, B, ρ, S, rs, ev, p⟩ => by
  refine Call_ (ld_blt I hg hm boot_enumerate (PyProof.Rows.callWith_type1 (thn ((ha W tk).run pos pins s σ H (fun vs H1 => ∃ a, vs = [.ref a] ∧ ((∃ xs, SqL X.K H1 a xs ∧ Q (Ite X.K a) H1) ∨ (∃ xs, SqT X.K H1 a xs ∧ Q (IteT X.K a) H1))) I ?_) fun us s1 hh => ?_) hs rfl))
  · refine tAr.take rs ev p fun ds S1 m1 H1 vs g1 r1 e1 rds p1 => ?_
    match ds, rds, p1 with
    | [], _, p1 => exact p1.elim
    | _ :: _ :: _, _, p1 => exact (show False by revert p1; unfold fEnum; split <;> simp_all [Post]).elim
    | [d], rds, p1 =>
      obtain ⟨v, rfl, rv⟩ := rds.one
      by_cases ht : ∃ xs, d = .tup xs
      · obtain ⟨xs, rfl⟩ := ht
        obtain ⟨a, rfl, sy⟩ := tupC_ok rv
        obtain ⟨ws, q, _⟩ := sy m1 B H1 S1 .refl r1 trivial
        exact ⟨a, rfl, .inr ⟨ws, q, p1.now r1 trivial _ (jy_enumT sy)⟩⟩
      · have p2 : Post X.K m1 B H1 (fun c x H' => W c x σ H') (fun p S' m' H' => p.2 S' → ∀ J, JY X.K J m' B H' p.1 p.2 → Q J H') (match lstC S1 d with
          | some p => .ok (enumF 0 p.1, p.2) S1
          | none => .bad) := by
          cases d <;> first | exact p1 | exact absurd ⟨_, rfl⟩ ht
        cases hl : lstC S1 d with
        | none => rw [hl] at p2; exact p2.elim
        | some q =>
          rw [hl] at p2
          obtain ⟨a, rfl, sy, hc⟩ := lstC_ok r1 rv hl
          obtain ⟨ws, sq, _⟩ := sy m1 B H1 S1 .refl r1 hc
          exact ⟨a, rfl, .inl ⟨ws, sq, p2.now r1 hc _ (jy_enum sy)⟩⟩
  · obtain ⟨vs, H1, I1, r1, a, rfl, hh⟩ := hh
    cases r1 with
    | cons r rr =>
      cases rr
      cases r
      have fresh : ∀ b, b ∈ [s1.heap.objs.size + 1, s1.heap.objs.size] → FpOk X pins H1 b := fun b hb => by
        have le : s1.heap.objs.size ≤ b := by
          rcases List.mem_cons.mp hb with z | z
          · rw [z]; exact Nat.le_add_right _ _
          · rw [List.mem_singleton.mp z]; exact Nat.le_refl _
        exact I1.fpOk le (I1.hok.fresh le)
      rcases hh with ⟨xs, hq, q⟩ | ⟨xs, hq, q⟩
      · obtain ⟨its, rv, p', hz⟩ := I1.list hq
        refine call_enumerate_list p'.isList fun h' he hit hsz hk => wpAny_pyIter_enum he ?_
        have I2 : Inv X pins σ H1 { s1 with heap := h' } := I1.kept (t' := s1.toks) hk
        exact ⟨s1.heap.objs.size + 1, [s1.heap.objs.size + 1, s1.heap.objs.size], _, _, H1, rfl, I2, turn_enum a (s1.heap.objs.size + 1) s1.heap.objs.size, ⟨⟨.none, he⟩, hit, Nat.succ_ne_self _⟩, fresh, q⟩
      · obtain ⟨its, rv, p', hz⟩ := I1.tuple hq
        refine call_enum1 (begins_tuple a its.toArray) p' fun h' he hit hk => wpAny_pyIter_enum he ?_
        have I2 : Inv X pins σ H1 { s1 with heap := h' } := I1.kept (t' := s1.toks) hk
        exact ⟨s1.heap.objs.size + 1, [s1.heap.objs.size + 1, s1.heap.objs.size], _, _, H1, rfl, I2, turn_enumT a (s1.heap.objs.size + 1) s1.heap.objs.size, ⟨⟨.none, he⟩, ⟨_, hit, rfl, rfl⟩, Nat.succ_ne_self _⟩, fresh, q⟩⟩
theorem zi_zip (hm : X.mg "zip" = none) (ha : ZA X [e, e2] t) (hg : Gl X "zip" := by rfl) (hs : starEach [e, e2] X.env = (false, eval e X.env) :: starEach [e2] X.env := by rfl) (hpl : (backTo pos (starEach [e2] X.env)).any (·.1) = false := by rfl) :
    ZI X (.Tuple elts kk tpos) (.Call (.Name "zip" p) [e, e2] [] pos) (iCall fZip t) := fun W tk => pi_weak (RZ.pi_zipA hg hm (ha W tk) hs hpl) fun σ H Q ⟨m, B, ρ, S, rs, ev, p⟩ => tAr.take rs ev p fun ds S1 m1 H1 vs g1 r1 e1 rds p1 => by
  match ds, rds, p1 with
  | [], _, p1 => exact p1.elim
  | [_], _, p1 => exact (show False by revert p1; unfold fZip; split <;> simp_all [Post]).elim
  | _ :: _ :: _ :: _, _, p1 => exact (show False by revert p1; unfold fZip; split <;> simp_all [Post]).elim
  | [d, d2], rds, p1 =>
    obtain ⟨v, w, rfl, rv, rw'⟩ := rds.two
    by_cases ht : ∃ xs ys, d = .tup xs ∧ d2 = .tup ys
    · obtain ⟨xs, ys, rfl, rfl⟩ := ht
      obtain ⟨a, rfl, sy⟩ := tupC_ok rv
      obtain ⟨b, rfl, sy2⟩ := tupC_ok rw'
      obtain ⟨ws, q, _⟩ := sy m1 B H1 S1 .refl r1 trivial
      obtain ⟨us, q2, _⟩ := sy2 m1 B H1 S1 .refl r1 trivial
      exact ⟨a, b, ws, us, rfl, .inr ⟨q, q2, p1.now r1 ⟨trivial, trivial⟩ _ (jy_zipT sy sy2)⟩⟩
    · have p2 : Post X.K m1 B H1 (fun c x H' => W c x σ H') (fun p S' m' H' => p.2 S' → ∀ J, JY X.K J m' B H' p.1 p.2 → Q J H') (match lstC S1 d, lstC S1 d2 with
        | some p, some q => .ok (zipD p.1 q.1, fun S' => p.2 S' ∧ q.2 S') S1
        | _, _ => .bad) := by
        cases d <;> cases d2 <;> first | exact p1 | exact absurd ⟨_, _, rfl, rfl⟩ ht
      cases hl : lstC S1 d with
      | none => rw [hl] at p2; exact p2.elim
      | some x =>
        cases hl2 : lstC S1 d2 with
        | none => rw [hl, hl2] at p2; exact p2.elim
        | some y =>
          rw [hl, hl2] at p2
          obtain ⟨a, rfl, sy, hc⟩ := lstC_ok r1 rv hl
          obtain ⟨b, rfl, sy2, hc2⟩ := lstC_ok r1 rw' hl2
          obtain ⟨ws, sq, _⟩ := sy m1 B H1 S1 .refl r1 hc
          obtain ⟨us, sq2, _⟩ := sy2 m1 B H1 S1 .refl r1 hc2
          exact ⟨a, b, ws, us, rfl, .inl ⟨sq, sq2, p2.now r1 ⟨hc, hc2⟩ _ (jy_zip sy sy2)⟩⟩
end
end Z
namespace Z
open PySem L2

/-! ### comprehensions of two fors -/
open Classical in
noncomputable def lc2I (tg : Tg) (chk : Sto → Prop) (t : DT) (inn : DA) (ρ0 : Env) : List D → Sto → R (List D)
  | [], S => .ok [] S
  | d :: ds, S => match Tg.asg S tg d ρ0 with
    | none => .bad
    | some ρ1 => (t ρ1 S).safe.bind fun k S1 => if k = true then (inn ρ1 S1).safe.bind fun ys S2 => if chk S2 then (lc2I tg chk t inn ρ0 ds S2).bind fun zs S3 => .ok (ys ++ zs) S3 else .bad
      else if chk S1 then lc2I tg chk t inn ρ0 ds S1 else .bad
noncomputable def innI (tg : Tg) (i : DI) (t : DT) (e : DE) (vs : List Nat) : DA := fun ρ S => (i ρ S).safe.bind fun p S1 => lcI tg p.2 t e (wipeD ρ vs) p.1 S1
noncomputable def lLc2 (tg : Tg) (i : DI) (t : DT) (tg1 : Tg) (i1 : DI) (t1 : DT) (e : DE) (vs vs1 : List Nat) : DA := fun ρ S => (i ρ S).bind fun p S1 => (lc2I tg p.2 t (innI tg1 i1 t1 e vs1) (wipeD ρ vs) p.1 S1).safe.bind fun L S2 => if L.length ≤ 16777216 then .ok L S2 else .bad
/-- what is wanted of the list once it is longer -/
def Kont (K : PySem.W.Frag) (mO : List Addr) (HO : Hp) (mi Bi : List Addr) (Hi : Hp) (Dl : Addr) (N : List Addr → Sto → Hp → List V → List D → Prop) : R (List D) → Prop
  | .ok acc S' => acc.length ≤ 16777216 ∧ ∀ m' H' va, Ge mO HO m' H' → Tr mi Bi Hi m' Bi H' → RS K m' Bi H' S' → H' Dl = some (.lst va) → RDs K m' Bi H' acc va → N m' S' H' va acc
  | _ => False
section
variable {K : PySem.W.Frag} {tg : Tg} {dt : DT} {de : DE} {vs : List Nat} {ρ : Env} {σ : L2.St} {J : It} {ds : List D} {chk : Sto → Prop} {mO mi B : List Addr} {HO Hi : Hp} {Si : Sto} {Dl : Addr} {acc : List D} {va : List V} {Nx : Hp → Prop}
theorem lc_inner (hD : HO Dl = none) (gO : Ge mO HO mi Hi) (rs : RS K mi (Dl :: B) Hi Si) (e : REs K mi (Dl :: B) Hi ρ σ) (hc : chk Si) (jy : JY K J mi (Dl :: B) Hi ds chk) (hix : ∀ i ∈ tg.ix, i ∈ vs) (hl0 : Hi Dl = some (.lst va)) (ra0 : RDs K mi (Dl :: B) Hi acc va)
    (p : Kont K mO HO mi (Dl :: B) Hi Dl (fun _ _ H' _ _ => Nx H') ((lcI tg chk dt de (wipeD ρ vs) ds Si).bind fun ys S' => .ok (acc ++ ys) S')) : ∃ W1 : Nat → Nat → Hp → Prop, (∃ m, W1 0 m Hi) ∧ ∀ j k H, W1 j k H →
      (J.stop j H ∧ Nx H) ∨ (J.go j H ∧ ∃ Nx1 : Hp → Prop, (∀ H', Nx1 H' → ∃ k', k' < k ∧ W1 (j + 1) k' H') ∧ ∀ x H', J.yld j H x H' → gT K tg x (wipe σ vs) H' fun σ3 H5 => wipe σ3 vs = wipe σ vs ∧ tTe WF K dt σ3 H5 fun b H6 =>
        if b = true then tE WF K de σ3 H6 fun y H7 => ∃ acc, H7 Dl = some (.lst acc) ∧ acc.length < sizeLine ∧ Nx1 (upd H7 Dl (.lst (acc ++ [y]))) else Nx1 H6) := by
  let St := fun (i : Nat) (H : Hp) => i ≤ ds.length ∧ ∃ m S acc va, Ge mO HO m H ∧ Tr mi (Dl :: B) Hi m (Dl :: B) H ∧ RS K m (Dl :: B) H S ∧ chk S ∧ H Dl = some (.lst va) ∧ RDs K m (Dl :: B) H acc va ∧
    Kont K mO HO mi (Dl :: B) Hi Dl (fun _ _ H' _ _ => Nx H') ((lcI tg chk dt de (wipeD ρ vs) (ds.drop i) S).bind fun ys S' => .ok (acc ++ ys) S')
  refine ⟨fun i k H => k = ds.length - i ∧ St i H, ⟨_, rfl, Nat.zero_le _, mi, Si, acc, va, gO, .refl, rs, hc, hl0, ra0, p⟩, ?_⟩
  rintro i k H ⟨rfl, hi, m, S, acc, va, g, tr, r, hch, hl, ra, p2⟩
  by_cases hlt : i < ds.length
  · refine .inr ⟨jy.go i m (Dl :: B) H S tr r hch hlt, St (i + 1), fun H' h => ⟨ds.length - (i + 1), by omega, rfl, h⟩, fun x H3 y => ?_⟩
    obtain ⟨ext, rx⟩ := jy.yl i m (Dl :: B) H S x H3 ds[i] tr r hch (by simp [hlt]) y
    obtain ⟨g3, r3⟩ := r.ext ext
    rw [List.drop_eq_getElem_cons hlt] at p2
    unfold lcI at p2
    have ew : REs K m (Dl :: B) H3 (wipeD ρ vs) (wipe σ vs) := (e.mono (tr.trans g3.tr)).wipe vs
    cases ha : Tg.asg S tg ds[i] (wipeD ρ vs) with
    | none => rw [ha] at p2; exact (show False from p2).elim
    | some ρ1 =>
      rw [ha] at p2
      simp only at p2
      refine ⟨m, Dl :: B, S, _, wipeD ρ vs, ρ1, r3, rx, ew, ha, fun σ2 e2 sam => ⟨by rw [sam vs hix, wipe_wipe], m, Dl :: B, ρ1, S, r3, e2, ?_⟩⟩
      cases ht : dt ρ1 S with
      | exc _ _ _ => rw [ht] at p2; exact (show False from p2).elim
      | bad => rw [ht] at p2; exact (show False from p2).elim
      | ok b S1 =>
        rw [ht] at p2
        simp only [R.safe_ok, R.bind_ok] at p2
        refine fun m4 H4 g4 r4 => ?_
        have hl4 : H4 Dl = some (.lst va) := (g4.keep Dl _ (fun q => r3.dis Dl q (List.mem_cons_self ..)) (ext _ _ hl) (fun ps e => by cases e)).2
        have ra4 := RDs.mono (g3.tr.trans g4.tr) _ _ ra
        cases b with
        | false =>
          rw [if_neg Bool.false_ne_true] at p2
          show St (i + 1) H4
          split at p2
          · rename_i hc1
            exact ⟨hlt, m4, S1, acc, va, (g.trans g3).trans g4, (tr.trans g3.tr).trans g4.tr, r4, hc1, hl4, ra4, p2⟩
          · exact (show False from p2).elim
        | true =>
          rw [if_pos rfl] at p2
          show tE WF K de σ2 H4 _
          refine ⟨m4, Dl :: B, ρ1, S1, r4, e2.mono g4.tr, ?_⟩
          cases he : de ρ1 S1 with
          | exc _ _ _ => rw [he] at p2; exact (show False from p2).elim
          | bad => rw [he] at p2; exact (show False from p2).elim
          | ok y S2 =>
            rw [he] at p2
            simp only [R.safe_ok, R.bind_ok] at p2
            refine fun m5 H5 g5 r5 v rv => ?_
            have hl5 : H5 Dl = some (.lst va) := (g5.keep Dl _ (fun q => r4.dis Dl q (List.mem_cons_self ..)) hl4 (fun ps e => by cases e)).2
            have ra5 := RDs.mono g5.tr _ _ ra4
            split at p2
            · rename_i hc2
              have p3 : Kont K mO HO mi (Dl :: B) Hi Dl (fun _ _ H' _ _ => Nx H') ((lcI tg chk dt de (wipeD ρ vs) (ds.drop (i + 1)) S2).bind fun ys S' => .ok ((acc ++ [y]) ++ ys) S') := by
                cases hr : lcI tg chk dt de (wipeD ρ vs) (ds.drop (i + 1)) S2 with
                | ok ys S3 =>
                  rw [hr] at p2
                  simp only [R.bind_ok, List.append_assoc, List.singleton_append] at p2 ⊢
                  exact p2
                | exc _ _ _ => rw [hr] at p2; exact (show False from p2).elim
                | bad => rw [hr] at p2; exact (show False from p2).elim
              have hlen : acc.length < 16777216 := by
                cases hr : lcI tg chk dt de (wipeD ρ vs) (ds.drop (i + 1)) S2 with
                | ok ys S3 =>
                  rw [hr] at p3
                  have := p3.1
                  simp at this
                  omega
                | exc _ _ _ => rw [hr] at p3; exact (show False from p3).elim
                | bad => rw [hr] at p3; exact (show False from p3).elim
              refine ⟨va, hl5, ?_, hlt, m5, S2, acc ++ [y], va ++ [v], ?_, ?_, ?_, hc2, upd_same, ?_, p3⟩
              · rw [← ra5.len, sizeLine_eq]
                exact hlen
              · have g6 := ((g.trans g3).trans g4).trans g5
                exact ⟨g6.pre, fun b o hb q nt => ⟨(g6.keep b o hb q nt).1, by rw [upd_ne (ne_of_none q hD)]; exact (g6.keep b o hb q nt).2⟩⟩
              · exact (((tr.trans g3.tr).trans g4.tr).trans g5.tr).trans (Tr.chg (List.mem_cons_self ..))
              · exact r5.chg (List.mem_cons_self ..)
              · exact RDs.mono (Tr.chg (List.mem_cons_self ..)) _ _ (ra5.app (RDs.cons rv RDs.nil))
            · exact (show False from p2).elim
  · have e' : i = ds.length := by omega
    subst e'
    rw [List.drop_length] at p2
    simp only [lcI, R.bind_ok, List.append_nil] at p2
    exact .inl ⟨jy.st _ m (Dl :: B) H S tr r hch (Nat.le_refl _), p2.2 m H va g tr r hl ra⟩
end
section
variable {K : PySem.W.Frag} {tg tg1 : Tg} {dt dt1 : DT} {di1 : DI} {de : DE} {vs vs1 : List Nat} {ρ : Env} {σ : L2.St} {J : It} {ds : List D} {chk : Sto → Prop} {m0 B : List Addr} {H0 : Hp} {S0 : Sto} {Q : VK}
def PostL2 (K : PySem.W.Frag) (m B : List Addr) (H : Hp) (Q : VK) : R (List D) → Prop
  | .ok ds S' => ds.length ≤ 16777216 ∧ ∀ m' H' p vs, Ge m H m' H' → RS K m' (p :: B) H' S' → p ∉ B → Nw H p → H' p = some (.lst vs) → RDs K m' (p :: B) H' ds vs → Q (.ref p) H'
  | _ => False
theorem lc2_core (rs : RS K m0 B H0 S0) (e : REs K m0 B H0 ρ σ) (hc : chk S0) (jy : JY K J m0 B H0 ds chk) (hix : ∀ i ∈ tg.ix, i ∈ vs) (hix1 : ∀ i ∈ tg1.ix, i ∈ vs1)
    (p : PostL2 K m0 B H0 Q (lc2I tg chk dt (innI tg1 di1 dt1 de vs1) (wipeD ρ vs) ds S0)) : ∀ Dl, H0 Dl = none → ∃ W : Nat → Nat → Hp → Prop, (∃ m, W 0 m (upd H0 Dl (.lst []))) ∧ ∀ i m H, W i m H →
      (J.stop i H ∧ Q (.ref Dl) H) ∨ (J.go i H ∧ ∃ Nx : Hp → Prop, (∀ H', Nx H' → ∃ m', m' < m ∧ W (i + 1) m' H') ∧ ∀ x H', J.yld i H x H' → gT K tg x (wipe σ vs) H' fun σ2 H2 => wipe σ2 vs = wipe σ vs ∧ tTe WF K dt σ2 H2 fun b H3 =>
        if b = true then tI WF K di1 σ2 H3 fun J1 H4 => ∃ W1 : Nat → Nat → Hp → Prop, (∃ m, W1 0 m H4) ∧ ∀ j k H, W1 j k H →
          (J1.stop j H ∧ Nx H) ∨ (J1.go j H ∧ ∃ Nx1 : Hp → Prop, (∀ H', Nx1 H' → ∃ k', k' < k ∧ W1 (j + 1) k' H') ∧ ∀ x H', J1.yld j H x H' → gT K tg1 x (wipe σ2 vs1) H' fun σ3 H5 => wipe σ3 vs1 = wipe σ2 vs1 ∧ tTe WF K dt1 σ3 H5 fun b H6 =>
            if b = true then tE WF K de σ3 H6 fun y H7 => ∃ acc, H7 Dl = some (.lst acc) ∧ acc.length < sizeLine ∧ Nx1 (upd H7 Dl (.lst (acc ++ [y]))) else Nx1 H6)
        else Nx H3) := by
  intro Dl hD
  have hDm : Dl ∉ m0 := rs.notin hD
  have hDB : Dl ∉ B := rs.notB hD
  let St := fun (i : Nat) (H : Hp) => i ≤ ds.length ∧ ∃ m S acc va, Ge m0 H0 m H ∧ Tr m0 B H0 m (Dl :: B) H ∧ RS K m (Dl :: B) H S ∧ chk S ∧ H Dl = some (.lst va) ∧ RDs K m (Dl :: B) H acc va ∧
    PostL2 K m0 B H0 Q ((lc2I tg chk dt (innI tg1 di1 dt1 de vs1) (wipeD ρ vs) (ds.drop i) S).bind fun ys S' => .ok (acc ++ ys) S')
  refine ⟨fun i k H => k = ds.length - i ∧ St i H, ⟨_, rfl, Nat.zero_le _, m0, S0, [], [], (rs.new hD).1, Tr.ban hD, rs.ban hD, hc, upd_same, RDs.nil, ?_⟩, ?_⟩
  · show PostL2 K m0 B H0 Q ((lc2I tg chk dt (innI tg1 di1 dt1 de vs1) (wipeD ρ vs) ds S0).bind fun ys S' => .ok ys S')
    cases h : lc2I tg chk dt (innI tg1 di1 dt1 de vs1) (wipeD ρ vs) ds S0 with
    | ok ys S' => rw [h] at p; exact p
    | exc c d S' => rw [h] at p; exact p
    | bad => rw [h] at p; exact p
  · rintro i k H ⟨rfl, hi, m, S, acc, va, g, tr, r, hch, hl, ra, p2⟩
    by_cases hlt : i < ds.length
    · refine .inr ⟨jy.go i m (Dl :: B) H S tr r hch hlt, St (i + 1), fun H' h => ⟨ds.length - (i + 1), by omega, rfl, h⟩, fun x H3 y => ?_⟩
      obtain ⟨ext, rx⟩ := jy.yl i m (Dl :: B) H S x H3 ds[i] tr r hch (by simp [hlt]) y
      obtain ⟨g3, r3⟩ := r.ext ext
      rw [List.drop_eq_getElem_cons hlt] at p2
      unfold lc2I at p2
      have ew : REs K m (Dl :: B) H3 (wipeD ρ vs) (wipe σ vs) := (e.mono (tr.trans g3.tr)).wipe vs
      cases ha : Tg.asg S tg ds[i] (wipeD ρ vs) with
      | none => rw [ha] at p2; exact (show False from p2).elim
      | some ρ1 =>
        rw [ha] at p2
        simp only at p2
        refine ⟨m, Dl :: B, S, _, wipeD ρ vs, ρ1, r3, rx, ew, ha, fun σ2 e2 sam => ⟨by rw [sam vs hix, wipe_wipe], m, Dl :: B, ρ1, S, r3, e2, ?_⟩⟩
        cases ht : dt ρ1 S with
        | exc _ _ _ => rw [ht] at p2; exact (show False from p2).elim
        | bad => rw [ht] at p2; exact (show False from p2).elim
        | ok b S1 =>
          rw [ht] at p2
          simp only [R.safe_ok, R.bind_ok] at p2
          refine fun m4 H4 g4 r4 => ?_
          have hl4 : H4 Dl = some (.lst va) := (g4.keep Dl _ (fun q => r3.dis Dl q (List.mem_cons_self ..)) (ext _ _ hl) (fun ps e => by cases e)).2
          have ra4 := RDs.mono (g3.tr.trans g4.tr) _ _ ra
          have gg := (g.trans g3).trans g4
          have tt := (tr.trans g3.tr).trans g4.tr
          cases b with
          | false =>
            rw [if_neg Bool.false_ne_true] at p2
            show St (i + 1) H4
            split at p2
            · rename_i hc1
              exact ⟨hlt, m4, S1, acc, va, gg, tt, r4, hc1, hl4, ra4, p2⟩
            · exact (show False from p2).elim
          | true =>
            rw [if_pos rfl] at p2
            show tI WF K di1 σ2 H4 _
            refine ⟨m4, Dl :: B, ρ1, S1, r4, e2.mono g4.tr, ?_⟩
            unfold innI at p2
            cases hi1 : di1 ρ1 S1 with
            | exc _ _ _ => rw [hi1] at p2; exact (show False from p2).elim
            | bad => rw [hi1] at p2; exact (show False from p2).elim
            | ok q S2 =>
              rw [hi1] at p2
              simp only [R.safe_ok, R.bind_ok] at p2
              refine fun m5 H5 g5 r5 hc5 J1 jy1 => ?_
              have hl5 : H5 Dl = some (.lst va) := (g5.keep Dl _ (fun q => r4.dis Dl q (List.mem_cons_self ..)) hl4 (fun ps e => by cases e)).2
              have ra5 := RDs.mono g5.tr _ _ ra4
              refine lc_inner (acc := acc) (va := va) hD (gg.trans g5) r5 ((e2.mono g4.tr).mono g5.tr) hc5 jy1 hix1 hl5 ra5 ?_
              cases hin : lcI tg1 q.2 dt1 de (wipeD ρ1 vs1) q.1 S2 with
              | exc _ _ _ => rw [hin] at p2; exact (show False from p2).elim
              | bad => rw [hin] at p2; exact (show False from p2).elim
              | ok ys S3 =>
                rw [hin] at p2
                simp only [R.safe_ok, R.bind_ok] at p2 ⊢
                split at p2
                · rename_i hc3
                  have p3 : PostL2 K m0 B H0 Q ((lc2I tg chk dt (innI tg1 di1 dt1 de vs1) (wipeD ρ vs) (ds.drop (i + 1)) S3).bind fun zs S' => .ok ((acc ++ ys) ++ zs) S') := by
                    unfold innI
                    cases hr : lc2I tg chk dt (fun ρ S => (di1 ρ S).safe.bind fun p S1 => lcI tg1 p.2 dt1 de (wipeD ρ vs1) p.1 S1) (wipeD ρ vs) (ds.drop (i + 1)) S3 with
                    | ok zs S4 =>
                      rw [hr] at p2
                      simp only [R.bind_ok, List.append_assoc] at p2 ⊢
                      exact p2
                    | exc _ _ _ => rw [hr] at p2; exact (show False from p2).elim
                    | bad => rw [hr] at p2; exact (show False from p2).elim
                  refine ⟨?_, fun m6 H6 vb g6 t6 r6 hl6 ra6 => ⟨hlt, m6, S3, acc ++ ys, vb, g6, (tt.trans g5.tr).trans t6, r6, hc3, hl6, ra6, p3⟩⟩
                  cases hr : lc2I tg chk dt (innI tg1 di1 dt1 de vs1) (wipeD ρ vs) (ds.drop (i + 1)) S3 with
                  | ok zs S4 =>
                    rw [hr] at p3
                    have := p3.1
                    simp at this ⊢
                    omega
                  | exc _ _ _ => rw [hr] at p3; exact (show False from p3).elim
                  | bad => rw [hr] at p3; exact (show False from p3).elim
                · exact (show False from p2).elim
    · have e' : i = ds.length := by omega
      subst e'
      rw [List.drop_length] at p2
      simp only [lc2I, R.bind_ok, List.append_nil] at p2
      exact .inl ⟨jy.st _ m (Dl :: B) H S tr r hch (Nat.le_refl _), p2.2 m H Dl va g r hDB (nw_none hD) hl ra⟩
end
section
variable {X : Cx} {pos spos : Pos} {elt t iter t1 iter1 : Expr} {ifs ifs1 : List Expr} {scope : Scope} {own : List (Str × Nat)} {tg tg1 : Tg} {di di1 : DI} {dt dt1 : DT} {de : DE}
theorem tlc2_weak {K : PySem.W.Frag} {W : WX} {vs vs1 : List Nat} (hix : ∀ i ∈ tg.ix, i ∈ vs) (hix1 : ∀ i ∈ tg1.ix, i ∈ vs1) (σ : L2.St) (H : Hp) (Q : VK) (h : tL W K (lLc2 tg di dt tg1 di1 dt1 de vs vs1) σ H Q) : tLc2 (tI W K di) (gT K tg) (tTe WF K dt) (tI WF K di1) (gT K tg1) (tTe WF K dt1) (tE WF K de) vs vs1 σ H Q := by
  obtain ⟨m, B, ρ, S, rs, e, p⟩ := h
  refine ⟨m, B, ρ, S, rs, e, ?_⟩
  unfold lLc2 at p
  cases hd : di ρ S with
  | ok q S1 =>
    rw [hd] at p
    simp only [R.bind_ok] at p
    refine fun m1 H1 g1 r1 hc J jy => ?_
    refine lc2_core r1 (e.mono g1.tr) hc jy hix hix1 ?_
    cases h : lc2I tg q.2 dt (innI tg1 di1 dt1 de vs1) (wipeD ρ vs) q.1 S1 with
    | ok ys S' =>
      rw [h] at p
      simp only [R.safe_ok, R.bind_ok] at p
      split at p
      · rename_i hz
        refine ⟨hz, fun m2 H2 pp va g2 r2 hB h0 h2 rv => p m2 H2 pp va (g1.trans g2) r2 hB ?_ h2 rv⟩
        exact g1.new_wasN (r2.out g2) h0
      · exact (show False from p).elim
    | exc c d S' => rw [h] at p; exact (show False from p).elim
    | bad => rw [h] at p; exact (show False from p).elim
  | exc c d S1 => rw [hd] at p; exact p
  | bad => rw [hd] at p; exact p
theorem zl_lc2 {vs1 : List Nat} (hc : X.calm = true) (hN : X.N.Nodup) (hi : ZI X t iter di) (ok : BlkOk X.N X.env.scope scope own) (hix : ∀ i ∈ tg.ix, i ∈ own.map (·.2)) (hix1 : ∀ i ∈ tg1.ix, i ∈ vs1) (hv : ∀ i ∈ vs1, i ∈ own.map (·.2))
    (hg : ∀ (s : Shared) (H : Hp) (C : Addr) (cl : List (Str × Addr)) (fp : List Addr), ZG (X.blk s H scope (compEnvC scope cl C X.env) fp) t tg) (ht : ∀ (s : Shared) (H : Hp) (C : Addr) (cl : List (Str × Addr)) (fp : List Addr), ZTs (X.blk s H scope (compEnvC scope cl C X.env) fp) ifs dt)
    (hi1 : ∀ (s : Shared) (H : Hp) (C : Addr) (cl : List (Str × Addr)) (fp : List Addr), ZI (X.blk s H scope (compEnvC scope cl C X.env) fp) t1 iter1 di1)
    (hg1 : ∀ (s : Shared) (H : Hp) (C : Addr) (cl : List (Str × Addr)) (fp : List Addr), ZG (X.blk s H scope (compEnvC scope cl C X.env) fp) t1 tg1) (ht1 : ∀ (s : Shared) (H : Hp) (C : Addr) (cl : List (Str × Addr)) (fp : List Addr), ZTs (X.blk s H scope (compEnvC scope cl C X.env) fp) ifs1 dt1)
    (he : ∀ (s : Shared) (H : Hp) (C : Addr) (cl : List (Str × Addr)) (fp : List Addr), ZE (X.blk s H scope (compEnvC scope cl C X.env) fp) elt de) (hs : ∀ x, foldedSetIterable iter X.env x = pure x := by intro _; rfl) (hs1 : ∀ env x, foldedSetIterable iter1 env x = pure x := by intro _ _; rfl) :
    ZL X (.ListComp elt [⟨t, iter, ifs, 0⟩, ⟨t1, iter1, ifs1, 0⟩] scope pos) (lLc2 tg di dt tg1 di1 dt1 de (own.map (·.2)) vs1) := fun W tk =>
  pe_weak (pe_lc2 (g := gT X.K tg) (tt := tTe WF X.K dt) (wi1 := tI WF X.K di1) (g1 := gT X.K tg1) (tt1 := tTe WF X.K dt1) (te := tE WF X.K de) hc hN (hi W tk) ok hv (fun s H C cl fp => hg s H C cl fp) (fun s H C cl fp => ht s H C cl fp WF takes0)
    (fun s H C cl fp => hi1 s H C cl fp WF takes0) (fun s H C cl fp => hg1 s H C cl fp) (fun s H C cl fp => ht1 s H C cl fp WF takes0) (fun s H C cl fp => he s H C cl fp WF takes0) hs hs1) fun σ H Q h => tlc2_weak hix hix1 σ H Q h
end
end Z
namespace Z
open PySem PySem.W PySem.Calls PyProof.Rows PySem.HandSPX

/-! ### an own error whose __init__ says super().__init__(at); self.at = at -/
/-- the text of that __init__ -/
def eiBody (p0 p1 p2 p3 p4 p5 q1 q2 q3 q4 : Pos) : List Stmt :=
  [.Expr (.Call (.Attribute (.Call (.Name "super" p0) [] [] p1) "__init__" p2) [.Name "at" p3] [] p4) p5, .Assign [.Attribute (.Name "self" q1) "at" q2] (.Name "at" q3) q4]
def eiArgs (p1 p2 : Pos) : Arguments := { posonlyargs := [], args := [{ arg := "self", annotation := none, pos := p1 }, { arg := "at", annotation := none, pos := p2 }], vararg := none, kwonlyargs := [], kw_defaults := [], kwarg := none, defaults := [] }
def eiScope : Scope := { kind := .function, names := [(PySem.Str.ofString "self", .local), (PySem.Str.ofString "at", .local), (PySem.Str.ofString "__class__", .free), (PySem.Str.ofString "super", .globalImplicit)], isGenerator := false, isCoroutine := false, more := [] }
/-- the call of super().__init__ is a plain call of a method: so at the text's own places -/
def EiCall (p0 p1 p2 p3 p4 : Pos) : Prop := ∀ env : PySem.Env, ∃ pl : Sem Bool, eval (.Call (.Attribute (.Call (.Name "super" p0) [] [] p1) "__init__" p2) [.Name "at" p3] [] p4) env = (do
  let ov ← attributeBase (.Call (.Name "super" p0) [] [] p1) "__init__" env (eval (.Call (.Name "super" p0) [] [] p1) env)
  standAt p2.atName
  let (f, first) ← holding [ov] (getMethod ov "__init__" pl)
  callWith p4 f first (backTo p4 (starEach [.Name "at" p3] env)) [])
/-- what the written part says of such a class, at C -/
structure ErrC (K : Frag) (prog : Program) (C : Addr) : Prop where
  cls : ∃ nm q N bs bm sn sub ab col dd k0 k1 k2 k3 k5, K.lookup C = some (excClassObj nm q C N bs bm true sn sub ab col dd k0 k1 k2 k3 k5 "ValueError.__new__") ∧ refsVE bm = true ∧ alongIn K "__init__" bm = some (some (.builtin "ValueError.__init__"))
  sa : findIn K (.ref C) "__setattr__" = some (some (.builtin "object.__setattr__"))
  no : findIn K (.ref C) "at" = some none
  sub : subIn K (.ref C) (.type "BaseException") = some true
  ty : typeIn K (.ref C) = some (.type "type")
  kp : keepIn K (.ref C) = true
  op : nsIn K cStatics "thirdparty.any" = some none
  file : (prog.main.scope.names.lookup ("super" : Str)).isSome = false
  fn : ∃ (fI cc cda : Addr) (qual : Str) (p0 p1 p2 p3 p4 p5 q1 q2 q3 q4 r1 r2 : Pos) (oc doc pm ct ccl cl : Value) (od an cdd cld : Option Addr) (osl ccs csl : Array (Option Value)) (vs : Array Value) (fs : Str) (tf : Tok),
    findIn K (.ref C) "__init__" = some (some (.ref fI)) ∧ typeIn K (.ref fI) = some (.type "function") ∧
    K.lookup fI = some ⟨oc, od, .func (ksFn "__init__" qual (eiArgs r1 r2) (eiBody p0 p1 p2 p3 p4 p5 q1 q2 q3 q4) eiScope .none .none doc pm an (.ref cda) ct cc), osl⟩ ∧ codeIn K (.ref cda) qual = true ∧
    K.lookup cda = some ⟨ccl, cdd, .fields vs, ccs⟩ ∧ vs[2]? = some (.str fs tf) ∧ ((prog.main.file : Str) == fs) = true ∧ EiCall p0 p1 p2 p3 p4 ∧ K.lookup cc = some ⟨cl, cld, .cell (some (.ref C)), csl⟩
/-- what is left of a fresh error at x -/
structure EiEnd (h h' : Heap) (x C dx : Addr) (v : Value) : Prop where
  keep : ∀ b o, b ≠ x → h.get? b = some o → h'.get? b = some o
  obj : ∃ t1, h'.get? x = some { cls := .ref C, dict := some dx, data := .fields #[.ref t1, .none, .none, .none, .bool false, .none] }
  dbig : h.objs.size ≤ dx
  dne : dx ≠ x
  ns : h'.Ns1 dx (fun y => if y = "at" then some v else none)
section
variable {prog : Program} {w : World} {A : Around} {E : Value → Shared → Prop} {R : Result → Shared → Prop} {s : Shared} {K : Frag}
theorem mw_call {h : Heap} {g : Array GenState} {d : Drawn} {t : Nat} {os : OsState} {nm q : Str} {C N u e t0 : Addr} {bs bm : List Value} {hdct : Bool} {sn : List Str} {sub : List Value} {ab : Bool} {col : Option Bool} {dd : Option Addr} {k0 k1 k2 k3 k5 : Option Value} {rest : List Value} {Q : Value → Shared → Prop}
    (hC : h.get? C = some (excClassObj nm q C N bs bm hdct sn sub ab col dd k0 k1 k2 k3 k5 "ValueError.__new__")) (he : h.get? e = some (HandSPX.excO C t0)) (hu : h.get? u = some (kxs_mw "ValueError.__init__" e)) (hz : rest.length ≤ sizeLine)
    (hq : ∀ h' t1, (∀ b o, b ≠ e → h.get? b = some o → h'.get? b = some o) → h'.get? e = some (HandSPX.excO C t1) → Q .none ⟨h', g, d, t, os⟩) : wpAny (model prog w) A (call (.ref u) rest) Q E ⟨h, g, d, t, os⟩ := by
  refine wpAny_call (codeAny_of_tree ?_)
  show wpAny _ A.in1 (callAny (.ref u) ⟨rest, []⟩) _ _ _
  simp only [callAny]
  refine wpAny_bind (wpAny_load hu ?_)
  have e1 : (Value.type "method-wrapper" == Value.type "method" || Value.type "method-wrapper" == Value.type "builtin_function_or_method" || Value.type "method-wrapper" == Value.type "method-wrapper") = true := by decide
  simp only [kxs_mw, e1, if_true]
  refine KFB.if_so (by decide) ?_
  refine wpAny_bind (check_bound_init F.excBase_ValueError.toExcCallFacts hC he rfl ?_)
  refine wpAny_bind (wpAny_pure (wpAny_pure ?_))
  refine ⟨plainId_quiet F.excBase_ValueError.init.plain _, codeAny_builtin F.excBase_ValueError.initEntry ?_⟩
  exact exc_init_tree (cls := .ref C) (t0 := t0) (dv := none) (c2 := .none) (c3 := .none) (b4 := .bool false) he hz fun h' k e' _ => hq h' _ k e'
theorem ei_run {C fI x t0 : Addr} {v : Value} {mg mb : Str → Option Value} (T : ErrC K prog C) (X : K.In s.heap) (hg : s.heap.Ns mainGlobals mg) (hmg : mg "super" = none) (hb : s.heap.Ns builtinsNs mb) (hmb : mb "super" = some (.type "super")) (hlim : s.heap.NoLimit)
    (hi : findIn K (.ref C) "__init__" = some (some (.ref fI))) (hx : s.heap.get? x = some (HandSPX.excO C t0)) (hxK : K.lookup x = none) (hroom : A.depth < recursionLimit)
    (hq : ∀ h' tk dx, EiEnd s.heap h' x C dx v → R (.ok (.ret .none)) { s with heap := h', toks := tk }) : codeAny (model prog w) A (.call (.ref fI) ⟨[.ref x, v], []⟩) R s := by
  obtain ⟨fI', cc, cda, qual, p0, p1, p2, p3, p4, p5, q1, q2, q3, q4, r1, r2, oc, doc, pm, ct, ccl, cl, od, an, cdd, cld, osl, ccs, csl, vs, fs, tf, hi', tI, ho, hcd, hcode, hvs, hfile, hec, hcell⟩ := T.fn
  rw [hi] at hi'
  cases hi'
  obtain ⟨nm, q, N, bs, bm, sn, sub, ab, col, dd, k0, k1, k2, k3, k5, hC, hbm, hal⟩ := T.cls
  have hcl : clsIn K C = some { name := nm, bases := bs, mro := .ref C :: bm, ns := N, qualname := q, hasDict := true, slotNames := sn, subclasses := sub, abstract := ab, collection := col, hasDel := false } := by unfold clsIn; rw [hC] <;> rfl
  have hmro : mroIn K C (.ref C) = some true := by
    unfold mroIn
    rw [hcl]
    simp
  refine ks_codeAny_call_defAt (fd := ksFn "__init__" qual (eiArgs r1 r2) (eiBody p0 p1 p2 p3 p4 p5 q1 q2 q3 q4) eiScope .none .none doc pm an (.ref cda) ct cc) (args := ⟨[.ref x, v], []⟩) (binds := [("self", .ref x), ("at", v)]) hroom (X _ _ ho) rfl hlim (codeRec_of X hcd) rfl
    (BindsTo.of_eq (by first | rfl | with_unfolding_all rfl)) (by show ∀ x ∈ eiScope.names, x.2 ≠ .cell; decide) (fun y hy => by
      rcases List.mem_cons.mp hy with e | e
      · rw [e]; rfl
      · rw [List.mem_singleton.mp e]; rfl) (fun h₁ hns hk => ?_)
  have X1 : K.In h₁ := X.keeps hk
  have hx1 := hk _ _ hx
  have hnx : x ≠ C := by
    intro e
    have q := X _ _ hC
    rw [← e, hx] at q
    cases q
  obtain ⟨oD, hD1, hD2⟩ : ∃ oD, h₁.get? C = some oD ∧ oD.data = .cls { name := nm, bases := bs, mro := .ref C :: bm, ns := N, qualname := q, hasDict := true, slotNames := sn, subclasses := sub, abstract := ab, collection := col, hasDel := false } := ⟨_, X1 _ _ hC, rfl⟩
  obtain ⟨hp0, g, dr, tk0, os⟩ := s
  obtain ⟨pl, hpl⟩ := hec (callEnv (ksFn "__init__" qual (eiArgs r1 r2) (eiBody p0 p1 p2 p3 p4 p5 q1 q2 q3 q4) eiScope .none .none doc pm an (.ref cda) ct cc) hp0.objs.size fI)
  refine ks_wpAt_execs_cons (ks_wpAt_Expr_any (ks_wpAt_MethodCall (pl := pl) ?_ hpl))
  refine ks_wpAt_super_base (prog := prog) (w := w) rfl rfl rfl rfl (X1 _ _ ho) rfl rfl rfl (X1 _ _ hcode) rfl hvs hfile T.file ?_
  refine ks_loadName_global rfl rfl (loadGlobal_builtin (hg.keeps hk) hmg (hb.keeps hk) hmb ⟨rfl, ?_⟩)
  refine wpAny_loadName_free rfl rfl rfl ⟨_, X1 _ _ hcell, rfl⟩ ?_
  refine wpAny_loadName_local rfl rfl hns rfl ?_
  refine ks_wpAny_isType_cls hD1 hD2 ⟨rfl, ?_⟩
  refine ks_wpAny_call_super hD1 hD2 hx1 rfl (fun c e => by cases e) (looks_mroIn X1 hmro) (fun h2 e2 kk2 => ?_)
  have X2 : K.In h2 := X1.keeps kk2
  have hx2 := kk2 _ _ hx1
  have I2 : InstAt h2 x (HandSPX.excO C t0) C none := ⟨hx2, rfl, rfl, trivial⟩
  have hVE : subIn K (.ref C) (.type "ValueError") = some true := by
    show mroIn K C (.type "ValueError") = some true
    have q2 := refsVE_contains "ValueError" bm hbm
    unfold mroIn
    rw [hcl]
    have q3 : (Value.ref C :: bm).contains (.type "ValueError") = true := by
      rw [List.contains_cons, q2]
      rfl
    simp only [Option.bind_some]
    rw [q3]
    rfl
  refine kxs_getMethod kxs_ValueError e2 (looks_opaque X2 T.op) (l₀ := .ref C :: bm) (fun A Q E s k q => wpAny_bind ((looks_clsIn X2 hcl) A _ E s k (wpAny_pure q))) (l := bm) (by simp [List.dropWhile_cons]) X2 hal (I2.type.andThen (looks_subIn X2 hVE)) hnx rfl ?_
  have hk3 : ∀ b o, h2.get? b = some o → (h2.push (kxs_mw "ValueError.__init__" x)).get? b = some o := fun b o e => Heap.get?_push_of_some _ e
  have hu3 : (h2.push (kxs_mw "ValueError.__init__" x)).get? h2.objs.size = some (kxs_mw "ValueError.__init__" x) := Heap.get?_push_size _ rfl
  have hns3 := (hns.keeps kk2).keeps hk3
  refine kxs_callWith (i := "ValueError.__init__") (x := x) rfl ?_
  refine evalArgs_plain (spliced_more (e := .Name "at" p3) (rest := []) (pos := p4) (wpAny_Name (wpAny_loadName_local rfl rfl hns3 rfl ?_) (by decide)) rfl)
  refine spliced_none ⟨hu3, ?_⟩
  refine mw_call (hk3 _ _ (X2 _ _ hC)) (hk3 _ _ hx2) hu3 (by show 1 ≤ sizeLine; rw [sizeLine_eq]; decide) fun h4 t1 k4 hx4 => ?_
  have X4 : K.In h4 := fun a o e => k4 a o (fun z => by rw [z, hxK] at e; cases e) (hk3 _ _ (X2 _ _ e))
  -- self.at = at
  have hnsL : ∀ b o, h₁.get? b = some o → b ≠ x → h4.get? b = some o := fun b o e ne => k4 b o ne (hk3 _ _ (kk2 _ _ e))
  have hxL : hp0.objs.size ≠ x := Nat.ne_of_gt (Heap.lt_size hx)
  have hns4 : h4.Ns hp0.objs.size (fun y => ([("self", .ref x), ("at", v)] : List (Str × Value)).reverse.lookup y) := hns3.at fun o e => k4 _ o hxL e
  refine wpAt_of_wpAny ?_
  show wpAny _ _ (execs _ _) _ _ _
  refine wpAny_execs_cons (plainObj_wpAny_Assign_Attribute ?_)
  refine wpAny_Name (wpAny_loadName_local rfl rfl hns4 rfl ?_) (by decide)
  refine wpAny_Name (wpAny_loadName_local rfl rfl hns4 rfl ?_) (by decide)
  refine set_plain X4 (ox := HandSPX.excO C t1) (od := none) ⟨hx4, rfl, rfl, trivial⟩ T.sa ?_
  refine exc_osa X4 hx4 hcl (show refsVE (.ref C :: bm) = true from hbm) rfl T.no (fun h5 tk5 dx k5 dn dne hx5 hn5 => ?_)
  show wpAny _ _ (execs _ _) _ _ _
  have old : ∀ b o, hp0.get? b = some o → b ≠ x → h4.get? b = some o := fun b o e ne => hnsL b o (hk b o e) ne
  refine wpAny_execs_nil (hq h5 tk5 dx ⟨fun b o hb e => k5 b o hb (old b o e hb), ⟨_, hx5⟩, ?_, dne, hn5⟩)
  exact Nat.le_trans (Nat.le_of_lt hns4.lt) dn
end
end Z
namespace Z
open PySem PySem.Spec PyProof.Rows L2

/-! ### raise E(at) -/
/-- a made error at e, its dict at d -/
structure ErrMade (h h' : Heap) (e C d : Addr) (v : Value) : Prop where
  keep : ∀ b o, h.get? b = some o → h'.get? b = some o
  big : h.objs.size ≤ e
  obj : ∃ t1, h'.get? e = some { cls := .ref C, dict := some d, data := .fields #[.ref t1, .none, .none, .none, .bool false, .none] }
  dbig : h.objs.size ≤ d
  dne : d ≠ e
  ns : h'.Ns1 d (fun y => if y = "at" then some v else none)
theorem err_made {prog : Program} {w : World} {A : Around} {R : Result → Shared → Prop} {s : Shared} {K : PySem.W.Frag} {C : Addr} {v : Value} {mg mb : Str → Option Value} (T : ErrC K prog C) (X : K.In s.heap) (hg : s.heap.Ns mainGlobals mg) (hmg : mg "super" = none) (hb : s.heap.Ns builtinsNs mb) (hmb : mb "super" = some (.type "super"))
    (hlim : s.heap.NoLimit) (hroom : A.depth + 1 < recursionLimit) (hq : ∀ h' tk e d, ErrMade s.heap h' e C d v → R (.ok (.ret (.ref e))) { s with heap := h', toks := tk }) : codeAny (model prog w) A (.call (.ref C) ⟨[v], []⟩) R s := by
  obtain ⟨nm, q, N, bs, bm, sn, sub, ab, col, dd, k0, k1, k2, k3, k5, hC, hbm, _⟩ := T.cls
  obtain ⟨fI, _, _, _, _, _, _, _, _, _, _, _, _, _, _, _, _, _, _, _, _, _, _, _, _, _, _, _, _, _, _, _, hi, tI, _⟩ := T.fn
  obtain ⟨hp, g, dr, tk, os⟩ := s
  have k : ∀ b o, hp.get? b = some o → ((hp.push (PySem.W.kdv_tup [v])).push (PySem.HandSPX.excO C hp.objs.size)).get? b = some o := fun b o e => Heap.get?_push_of_some _ (Heap.get?_push_of_some _ e)
  have hget : ((hp.push (PySem.W.kdv_tup [v])).push (PySem.HandSPX.excO C hp.objs.size)).get? (hp.objs.size + 1) = some (PySem.HandSPX.excO C hp.objs.size) := by heap_get
  have hnx : K.lookup (hp.objs.size + 1) = none := by
    cases e : K.lookup (hp.objs.size + 1) with
    | none => rfl
    | some o =>
      have lt := Heap.lt_size (X _ _ e)
      have lt' : hp.objs.size + 1 < hp.objs.size := lt
      exact absurd lt' (by omega)
  have hsz : [v].length ≤ sizeLine := by rw [sizeLine_eq]; exact (by decide : 1 ≤ 16777216)
  refine PySem.HandSPX.call_own F.excBase_ValueError (fun X => PySem.HandSPX.refsVE_contains X bm hbm) (X _ _ hC) (PySem.W.looks_findIn X hi) (fun self => PySem.W.bind_fn X self tI) hsz ?_
  refine ei_run (s := ⟨(hp.push (PySem.W.kdv_tup [v])).push (PySem.HandSPX.excO C hp.objs.size), g, dr, tk, os⟩) T (X.keeps k) (hg.keeps k) hmg (hb.keeps k) hmb (hlim.keeps k) hi hget hnx hroom fun h' tk' dx ⟨k', hx, dn, dne, hns⟩ => ?_
  have old : ∀ b o, hp.get? b = some o → h'.get? b = some o := fun b o e => k' b o (Nat.ne_of_lt (Nat.lt_succ_of_lt (Heap.lt_size e))) (k b o e)
  have z : hp.objs.size ≤ dx := by
    have q := dn
    rw [Heap.size_push, Heap.size_push] at q
    omega
  exact ⟨rfl, hq h' tk' (hp.objs.size + 1) dx ⟨old, Nat.le_succ _, hx, z, dne, hns⟩⟩
theorem relO_at {v : V} {v' : Value} (r : RelV v v') (f : Str) : RelO (List.lookup f [(("at" : Str), v)]) (if f = "at" then some v' else none) := by
  by_cases hw : f = "at"
  · subst hw
    rw [if_pos rfl]
    have q : List.lookup ("at" : Str) [(("at" : Str), v)] = some v := by simp [List.lookup]
    rw [q]
    exact r
  · rw [if_neg hw]
    have qw : (f == ("at" : Str)) = false := by simpa using hw
    have q2 : List.lookup f [(("at" : Str), v)] = none := by simp [List.lookup, qw]
    rw [q2]
    trivial
/-- E(x) -/
def tMkE (C : Addr) (ta : TA) : L2.St → Hp → XK → Prop := fun σ H Q => ta σ H fun vs H1 => ∃ v, vs = [v] ∧ ∀ d, H1 d = none → Q (.ref C) (some d) (upd H1 d (.xd [(("at" : Str), v)]))
section
variable {X : Cx} {C : Addr} {x : Str} {a : Expr} {ta : TA} {p pos pos2 : Pos} {k : Nat} {da : DE}
theorem pmk_err (T : ErrC X.K X.prog C) (hm : X.mg x = some (.ref C)) (hms : X.mg "super" = none) (hr : Room k X.A) (ha : PA X [a] ta) (hg : Gl X x := by rfl) (hdb : (x == ("__debug__" : Str)) = false := by decide)
    (he : starEach (a :: []) X.env = (false, eval a X.env) :: starEach [] X.env := by rfl) (hpl : (backTo pos (starEach [] X.env)).any (·.1) = false := by rfl) : PMk X (.Call (.Name x p) [a] [] pos) (tMkE C ta) := by
  intro pins s σ H Q I h
  refine wpAny_Call_Name_kw (ld_glob I hg hm ?_ hdb)
  refine PySem.W.callWith_K (h₀ := X.base) I.ok.mod.kin T.kp (thn (ha.run pos pins s σ H _ I h) fun us s1 hh => ?_) he hpl
  obtain ⟨vs, H1, I1, r1, v, ev, q1⟩ := hh
  subst ev
  refine ⟨I1.kIn, ?_⟩
  obtain ⟨v', rfl, rv⟩ : ∃ v', us = [v'] ∧ RelV v v' := by
    cases r1 with
    | cons rv rn => cases rn; exact ⟨_, rfl, rv⟩
  have hlim := I1.nolimit
  obtain ⟨mb, hb1, hb2⟩ := I1.mod.blt
  have gl : s1.heap.Ns mainGlobals X.mg := I1.mod.glob.keeps I1.bk
  have bl : s1.heap.Ns builtinsNs mb := hb1.keeps I1.bk
  obtain ⟨hp, g, dr, tk, os⟩ := s1
  refine wpAny_call (err_made T I1.kIn gl hms bl ((hb2 _ (by decide +kernel)).trans (by decide +kernel)) hlim (by have := hr.dp; omega) fun h' tk' e d M => ?_)
  show MkP X pins σ Q (.ref e) ⟨h', g, dr, tk', os⟩
  obtain ⟨t1, hoe⟩ := M.obj
  have hns := M.ns
  obtain ⟨G', g1, g2⟩ := restrict h' fun b => decide (b ≠ e)
  have gk : ∀ b, b ≠ e → G'.get? b = h'.get? b := fun b hb => g1 b (decide_eq_true hb)
  have ge : G'.get? e = none := g2 e (by simp)
  have old : ∀ b o, hp.get? b = some o → G'.get? b = some o := fun b o q => (gk b (Nat.ne_of_lt (Nat.lt_of_lt_of_le (Heap.lt_size q) M.big))).trans (M.keep b o q)
  have ob : ObjOk X.prog X.w (upd H1 d (.xd [(("at" : Str), v)])) G' d (.xd [(("at" : Str), v)]) := ⟨_, hns.at (fun o q => (gk d M.dne).trans q), fun f => relO_at rv f⟩
  have J : Inv X pins σ (upd H1 d (.xd [(("at" : Str), v)])) ⟨G', g, dr, tk', os⟩ := I1.laid (t' := tk') old M.dbig ob
  refine ⟨e, _, _, ⟨G', g, dr, tk', os⟩, _, .ref C, some d, rfl, J, fun b o q => ?_, ge, hoe, ⟨rfl, rfl⟩, rfl, rfl, ?_, rfl, I1.bare, raises_own T.sub T.ty, q1 d (I1.hok.fresh M.dbig)⟩
  · by_cases hb : b = e
    · have q' : G'.get? b = some o := q
      rw [hb, ge] at q'
      cases q'
    · exact (gk b hb).symm.trans q
  · rw [upd_ne (Ne.symm M.dne)]
    exact I1.hok.fresh M.big
def sRaise (C : Addr) (a : DE) : DS := fun ρ S => (a ρ S).to ρ fun d S1 => .exc ρ C d S1
theorem zs_raise (hc : X.calm = true) (T : ErrC X.K X.prog C) (hm : X.mg x = some (.ref C)) (hms : X.mg "super" = none) (hr : Room k X.A) (ha : ZE X a da) (hg : Gl X x := by rfl) (hdb : (x == ("__debug__" : Str)) = false := by decide)
    (he : starEach (a :: []) X.env = (false, eval a X.env) :: starEach [] X.env := by rfl) (hpl : (backTo pos (starEach [] X.env)).any (·.1) = false := by rfl) : ZS X (.Raise (some (.Call (.Name x p) [a] [] pos)) none pos2) (sRaise C da) := fun W tk =>
  ps_weak (ps_raise hc tk (pmk_err T hm hms hr ((za_cons ha za_nil he) W tk) hg hdb he hpl)) fun E σ H ⟨m, B, ρ, S, rs, e, p⟩ => by
    unfold sRaise at p
    refine ⟨m, B, ρ, S, rs, e, ?_⟩
    unfold aC
    cases h1 : da ρ S with
    | bad => rw [h1] at p; exact p
    | exc c d S' => rw [h1] at p; exact fun m' H' x v g r hx rv => p m' H' σ x v g r (e.mono g.tr) hx rv
    | ok d S1 =>
      rw [h1] at p
      refine fun m1 H1 g1 r1 vs rv => ?_
      obtain ⟨v, rfl, rv1⟩ := rv.one
      refine ⟨v, rfl, fun q hq => ?_⟩
      obtain ⟨g2, r2⟩ := r1.new (u := .xd [(("at" : Str), v)]) hq
      exact p m1 _ σ q v (g1.trans g2) r2 ((e.mono g1.tr).mono g2.tr) upd_same (rv1.mono g2.tr)
end
end Z
namespace Z
open PySem PySem.W PySem.Spec PySem.Calls PyProof.Rows L2

/-! ### isinstance of a caught error that has its dict -/
section
variable {prog : Program} {w : World} {A : Around} {E : Value → Shared → Prop} {s : Shared} {K : Frag} {x D : Addr} {ox : Obj} {od : Obj}
theorem classE {Q : Option Value → Shared → Prop} (T : ExcC K D) (X : K.In s.heap) (I : InstAt s.heap x ox D (some od)) (h : Q (some (.ref D)) { s with toks := s.toks + 1 }) : wpAny (model prog w) A (getAttr? (.ref x) "__class__") Q E s := by
  have hf : findObj K D (some od) "__class__" = some (.bind (.builtin "getset_descriptor.__get__") (.builtin "object.__class__")) := findObj_data (by obtain ⟨cd, hc, _⟩ := any_some T.hd; rw [hc]; rfl) T.ha T.hn T.ht
  obtain ⟨hp, g, d, t, os⟩ := s
  have L0 := I.type (M := model prog w)
  have l1 := looks_findIn (M := model prog w) X T.hg
  have l2 := looks_findIn (M := model prog w) X T.hk
  have l3 := looks_find (M := model prog w) X I hf
  have sub : Looks (model prog w) hp (isInstance (.ref x) (.type "BaseException")) true := L0.andThen (looks_subIn X T.hs)
  have n0 : (false && onTheHeap (Value.builtin "BaseException.__getattribute__")) = false := rfl
  have n2 : (Value.builtin "BaseException.__getattribute__" == Value.builtin "object.__getattribute__") = false := by decide +kernel
  have n1 : (onTheHeap (Value.ref D) && Value.builtin "BaseException.__getattribute__" == Value.builtin "object.__getattribute__") = false := by rw [n2]; rfl
  unfold getAttr? getAttrBy? getAttrBy
  refine wpAny_bind (wpAny_mkText (wpAny_bind (wpAny_attempt (wpAny_holding (wpAny_bind (L0.at (wpAny_bind (l1.at ?_))))))))
  show wpAny _ _ (if (onTheHeap (Value.ref D) && Value.builtin "BaseException.__getattribute__" == Value.builtin "object.__getattribute__") = true then _ else _) _ _ _
  rw [n1, if_neg Bool.false_ne_true]
  unfold getAttrByItsOwn hookBefore
  refine wpAny_bind ?_
  rw [if_pos (show onTheHeap (Value.ref D) = true from rfl)]
  refine l2.at (wpAny_bind (wpAny_attempt (wpAny_holding ?_)))
  unfold callGetattribute
  rw [n0, if_neg Bool.false_ne_true]
  unfold boundAndCalled
  rw [PySem.F.excAttr_ValueError.ga.bind (.ref x)]
  refine wpAny_bind (wpAny_pure ?_)
  show wpAny _ _ (call (.builtin "BaseException.__getattribute__") [.ref x, .str "__class__" t]) _ _ _
  refine wpAny_call (codeAny_call_builtin PySem.F.excAttr_ValueError.ga.plain PySem.F.entry_bexc_ga ?_)
  refine @check_slot (model prog w) _ _ ⟨hp, g, d, t + 1, os⟩ "BaseException.__getattribute__" "BaseException" "__getattribute__" (.ref x) [.str "__class__" t] [] _ (by decide +kernel) (by decide +kernel) sub (PySem.F.args_bexc_ga (.ref x) (.str "__class__" t)) ?_
  unfold Builtin.«object.__getattribute__»
  refine wpAny_bind (wpAny_of_eq (a := ((Value.ref x : Value), [Value.str "__class__" t])) (by first | rfl | (simp only [slotArgs]; rfl)) ?_)
  refine wpAny_bind (wpAny_pure (wpAny_bind (L0.at (wpAny_bind (l3.at ?_)))))
  show wpAny _ _ (holding [Value.builtin "object.__class__"] (call (.builtin "getset_descriptor.__get__") [.builtin "object.__class__", .ref x, .ref D]) >>= ret) _ _ _
  refine wpAny_bind (wpAny_holding (wpAny_call (class_get (s := ⟨hp, g, d, t + 1, os⟩) (ox := ox) (od := some od) X I T.hm ?_)))
  refine wpAny_pure ?_
  show wpAny _ _ (handedOut (.ref D)) _ _ _
  rw [handedOut_of (v := .ref D) rfl]
  first
    | exact wpAny_pure (wpAny_pure h)
    | exact wpAny_pure h
    | exact wpAny_pure (wpAny_bind (wpAny_pure (wpAny_pure h)))
theorem kitx_err (T : ExcC K D) : KitX K (.ref x) (.ref D) (fun h => InstAt h x ox D (some od)) where
  ty := fun _ _ _ I => I.type
  it := fun _ _ X _ => by
    obtain ⟨cd, hc, _⟩ := any_some T.hd
    unfold clsIn at hc
    split at hc
    · rename_i c' d' cd' sl' ho
      exact fun A' Q' E' s' k q => by
        unfold isType loadHead
        exact wpAny_bind (wpAny_loadPart (k _ _ (X _ _ ho)) (wpAny_pure q))
    · cases hc
  ne := fun h tp dd its n sl X htp => by
    obtain ⟨cd, hc, _⟩ := any_some T.hd
    refine Bool.eq_false_iff.mpr fun q => ?_
    have e : D = tp := Value.ref.inj (beq_iff_eq.mp q)
    subst e
    unfold clsIn at hc
    split at hc
    · rename_i c' d' cd' sl' ho
      have z := (X _ _ ho).symm.trans htp
      cases z
    · cases hc
  ca := fun X I k => classE T X I k
end
/-- isinstance(e, c), e the error that the suite holds -/
def rIsX (K : PySem.W.Frag) (a : Addr) (cls : Value) (dd : Option Addr) : List V → Hp → VK → Prop := fun xs H Q => ∃ (c : V) (cv : Value) (D x : Addr) (fs : List (Str × V)) (b : Bool), xs = [.ref a, c] ∧ (∀ u, RelV c u → u = cv) ∧ cls = .ref D ∧ dd = some x ∧ H x = some (.xd fs) ∧ ExcC K D ∧ PySem.W.kitOne K (.ref D) cv = some b ∧ Q (.bl b) H
theorem call_isX {X : Cx} {a : Addr} {cls : Value} {dd : Option Addr} {oe : Obj} {pn : List (Addr × Obj)} (hz : Zc cls dd oe) (hf : ∃ vs, oe.data = .fields vs) : CallR (X.suite a ((a, oe) :: pn)) (.builtin "isinstance") (rIsX X.K a cls dd) := by
  intro pins s σ H xs us Q I r h
  obtain ⟨c, cv, D, x, fs, b, rfl, hcv, rfl, rfl, hx, T, e, q⟩ := h
  obtain ⟨u1, u2, rfl, r1, r2⟩ := vals2 r
  obtain rfl : u1 = Value.ref a := r1
  obtain rfl := hcv _ r2
  obtain ⟨hget, _⟩ := I.pin (a, oe) (List.mem_append.mpr (.inl List.mem_cons_self))
  obtain ⟨vs, hv⟩ := hf
  have hxo : ObjOk X.prog X.w H s.heap x (.xd fs) := I.hok x _ hx
  obtain ⟨mA, hns, _⟩ := hxo
  obtain ⟨od, ho, _⟩ := lookIn_ns hns
  have J : PySem.W.InstAt s.heap a oe D (some od) := ⟨hget, hz.1, by unfold PySem.W.notCls; rw [hv] <;> rfl, by rw [hz.2]; exact ho⟩
  exact PySem.W.kia_one (kitx_err T) I.kIn J e (fun z => nomatch z) fun tk => ⟨.bl b, H, I.kept (t' := tk) fun _ _ z => z, rfl, q⟩

/-! ### expressions of an except suite -/
abbrev DX := Addr → D → DE
def tX (K : PySem.W.Frag) (i : Nat) (a : Addr) (cls : Value) (dd : Option Addr) (den : DX) : TE := fun σ H Q => ∃ m B ρ S C x va de, RS K m B H S ∧ REs K m B H ρ σ ∧ σ[i]? = some (some (.ref a)) ∧ cls = .ref C ∧ dd = some x ∧ H x = some (.xd [("at", va)]) ∧ RD K m B H de va ∧
  Post K m B H (fun _ _ _ => False) (fun d _ m' H' => ∀ v, RD K m' B H' d v → Q v H') (den C de ρ S)
def tXA (K : PySem.W.Frag) (i : Nat) (a : Addr) (cls : Value) (dd : Option Addr) (den : Addr → D → DA) : TA := fun σ H Q => ∃ m B ρ S C x va de, RS K m B H S ∧ REs K m B H ρ σ ∧ σ[i]? = some (some (.ref a)) ∧ cls = .ref C ∧ dd = some x ∧ H x = some (.xd [("at", va)]) ∧ RD K m B H de va ∧
  Post K m B H (fun _ _ _ => False) (fun ds _ m' H' => ∀ vs, RDs K m' B H' ds vs → Q vs H') (den C de ρ S)
def ZX (X : Cx) (i : Nat) (e : Expr) (den : DX) : Prop := ∀ (a : Addr) (oe : Obj) (cls : Value) (dd : Option Addr) (pn : List (Addr × Obj)), Zc cls dd oe → (∃ vs, oe.data = .fields vs) → PE (X.suite a ((a, oe) :: pn)) e (tX X.K i a cls dd den)
def ZXA (X : Cx) (i : Nat) (es : List Expr) (den : Addr → D → DA) : Prop := ∀ (a : Addr) (oe : Obj) (cls : Value) (dd : Option Addr) (pn : List (Addr × Obj)), Zc cls dd oe → (∃ vs, oe.data = .fields vs) → PA (X.suite a ((a, oe) :: pn)) es (tXA X.K i a cls dd den)
theorem xd_stays {K : PySem.W.Frag} {m m' B : List Addr} {H H' : Hp} {S : Sto} {x : Addr} {fs : List (Str × V)} (rs : RS K m B H S) (h : H x = some (.xd fs)) (g : Ge m H m' H') : H' x = some (.xd fs) := by
  refine (g.keep x _ (fun hm => ?_) h (fun ps e => by cases e)).2
  obtain ⟨n, hn⟩ := List.mem_iff_getElem?.mp hm
  have hl : n < S.length := by rw [← rs.len]; exact (List.getElem?_eq_some_iff.mp hn).1
  have q := rs.ob n x S[n] hn (by simp [hl])
  cases ho : S[n] with
  | lst ds => rw [ho] at q; obtain ⟨vs, e, _⟩ := q; rw [h] at e; cases e
  | ins C fs => rw [ho] at q; obtain ⟨dx, vs, e, _⟩ := q; rw [h] at e; cases e
  | dct kvs => rw [ho] at q; obtain ⟨vs, e, _⟩ := q; rw [h] at e; cases e
  | dcT kvs => rw [ho] at q; obtain ⟨vs, e, _⟩ := q; rw [h] at e; cases e
  | iset p n => rw [ho] at q; have e : _ = _ := q; rw [h] at e; cases e
  | tab P q0 => rw [ho] at q; obtain ⟨rfl, ps, e, _⟩ := q; rw [h] at e; cases e
section
variable {X : Cx} {i : Nat} {e c b : Expr} {es : List Expr} {den dc db : DX} {da : Addr → D → DA} {pos p1 p0 : Pos} {n : Str}
theorem tX.take {β : Type} {K : PySem.W.Frag} {a : Addr} {cls : Value} {dd : Option Addr} {d0 : DX} {f : D → Sto → R β} {σ : L2.St} {H : Hp} {Q' : VK} {m B : List Addr} {ρ : Env} {S : Sto} {C x : Addr} {va : V} {de : D} {P : β → Sto → List Addr → Hp → Prop} (r : RS K m B H S) (e : REs K m B H ρ σ)
    (h1 : σ[i]? = some (some (.ref a))) (h2 : cls = .ref C) (h3 : dd = some x) (h4 : H x = some (.xd [("at", va)])) (h5 : RD K m B H de va) (h : Post K m B H (fun _ _ _ => False) P ((d0 C de ρ S).bind f))
    (k : ∀ d S1 m1 H1 v, Ge m H m1 H1 → RS K m1 B H1 S1 → REs K m1 B H1 ρ σ → RD K m1 B H1 d v → H1 x = some (.xd [("at", va)]) → RD K m1 B H1 de va → Post K m1 B H1 (fun _ _ _ => False) P (f d S1) → Q' v H1) : tX K i a cls dd d0 σ H Q' :=
  ⟨m, B, ρ, S, C, x, va, de, r, e, h1, h2, h3, h4, h5, (Post.bind h).imp fun d S1 m1 H1 g1 r1 p v rv => k d S1 m1 H1 v g1 r1 (e.mono g1.tr) rv (xd_stays r h4 g1) (h5.mono g1.tr) p⟩
theorem tXA.take {β : Type} {K : PySem.W.Frag} {a : Addr} {cls : Value} {dd : Option Addr} {d0 : Addr → D → DA} {f : List D → Sto → R β} {σ : L2.St} {H : Hp} {Q' : List V → Hp → Prop} {m B : List Addr} {ρ : Env} {S : Sto} {C x : Addr} {va : V} {de : D} {P : β → Sto → List Addr → Hp → Prop} (r : RS K m B H S) (e : REs K m B H ρ σ)
    (h1 : σ[i]? = some (some (.ref a))) (h2 : cls = .ref C) (h3 : dd = some x) (h4 : H x = some (.xd [("at", va)])) (h5 : RD K m B H de va) (h : Post K m B H (fun _ _ _ => False) P ((d0 C de ρ S).bind f))
    (k : ∀ d S1 m1 H1 v, Ge m H m1 H1 → RS K m1 B H1 S1 → REs K m1 B H1 ρ σ → RDs K m1 B H1 d v → H1 x = some (.xd [("at", va)]) → RD K m1 B H1 de va → Post K m1 B H1 (fun _ _ _ => False) P (f d S1) → Q' v H1) : tXA K i a cls dd d0 σ H Q' :=
  ⟨m, B, ρ, S, C, x, va, de, r, e, h1, h2, h3, h4, h5, (Post.bind h).imp fun d S1 m1 H1 g1 r1 p v rv => k d S1 m1 H1 v g1 r1 (e.mono g1.tr) rv (xd_stays r h4 g1) (h5.mono g1.tr) p⟩
/-- what does not touch the error -/
theorem zx_lift {d0 : DE} (h : ∀ (a : Addr) (pn : List (Addr × Obj)), ZE (X.suite a pn) e d0) : ZX X i e fun _ _ => d0 := fun a oe cls dd pn hz hf => pe_weak (h a _ WF takes0) fun σ H Q ⟨m, B, ρ, S, C, x, va, de, rs, ee, h1, h2, h3, h4, h5, p⟩ => ⟨m, B, ρ, S, rs, ee, p⟩
def xAt (cs : List Addr) : DX := fun C d _ S => if C ∈ cs then .ok d S else .bad
def xIs (f : Addr → Option Bool) : DX := fun C _ _ S => match f C with
  | some k => .ok (.bl k) S
  | none => .bad
theorem pe_err {a : Addr} {oe : Obj} {pn : List (Addr × Obj)} (hi : X.N[i]? = some n) (hv : Vis X.env.scope n) (hd : (n == ("__debug__" : Str)) = false) (hcd : (n == ("__classdict__" : Str)) = false) :
    PE (X.suite a ((a, oe) :: pn)) (.Name n p0) (fun σ H Q => σ[i]? = some (some (.ref a)) ∧ Q (.ref a) H) := pe_weak (pe_var (X := X.suite a ((a, oe) :: pn)) (i := i) hi hv hd hcd) fun σ H Q ⟨h, q⟩ => ⟨_, h, q⟩
/-- e.at -/
theorem zx_at {cs : List Addr} (hc : ∀ C ∈ cs, XfC X.K C ∧ PySem.W.findIn X.K (.ref C) "at" = some none) (hi : X.N[i]? = some n := by rfl) (hv : Vis X.env.scope n := by first | exact Or.inl rfl | exact Or.inr (Or.inl rfl) | exact Or.inr (Or.inr rfl)) (hd : (n == ("__debug__" : Str)) = false := by decide) (hcd : (n == ("__classdict__" : Str)) = false := by decide)
    (hb : attributeBase (.Name n p0) "at" X.env (eval (.Name n p0) X.env) = eval (.Name n p0) X.env := by rfl) : ZX X i (.Attribute (.Name n p0) "at" pos) (xAt cs) := fun a oe cls dd pn hz hf => ⟨fun pins s σ H Q I ⟨m, B, ρ, S, C, x, va, de, rs, ee, h1, h2, h3, h4, h5, p⟩ => by
  unfold xAt at p
  split at p
  · rename_i hC
    refine (pe_xf (hc C hC).1 (hc C hC).2 hz hf (pe_err (i := i) hi hv hd hcd) hb).run pins s σ H Q I ?_
    exact ⟨h1, rfl, h2, x, _, va, h3, h4, by simp [List.lookup], p.now rs va h5⟩
  · exact p.elim⟩
theorem zxa_nil : ZXA X i [] fun _ _ => aN := fun a oe cls dd pn hz hf => pa_weak pa_nil fun σ H Q ⟨m, B, ρ, S, C, x, va, de, rs, ee, h1, h2, h3, h4, h5, p⟩ => p.now rs [] RDs.nil
theorem zxa_cons (ha : ZX X i e den) (hr : ZXA X i es da) (hs : starEach (e :: es) X.env = (false, eval e X.env) :: starEach es X.env := by rfl) : ZXA X i (e :: es) fun C d => aC (den C d) (da C d) := fun a oe cls dd pn hz hf => pa_weak (pa_cons (ha a oe cls dd pn hz hf) (hr a oe cls dd pn hz hf) hs) fun σ H Q ⟨m, B, ρ, S, C, x, va, de, rs, ee, h1, h2, h3, h4, h5, p⟩ =>
  tX.take (f := fun d S1 => (da C de ρ S1).bind fun ds S2 => .ok (d :: ds) S2) rs ee h1 h2 h3 h4 h5 p fun d S1 m1 H1 v g1 r1 e1 rd x1 rd1 p1 => tXA.take r1 e1 h1 h2 h3 x1 rd1 p1 fun ds S2 m2 H2 vs g2 r2 e2 rds x2 rd2 p2 => p2.now r2 (v :: vs) (RDs.cons (rd.mono g2.tr) rds)
theorem zx_tup {k x1 : Nat} (h : ZXA X i es da) (hl : ∀ C d, LenA k (da C d)) (hn : k ≤ 1000 := by decide) : ZX X i (.Tuple es x1 pos) fun C d => eTup (da C d) := fun a oe cls dd pn hz hf => pe_weak (pe_tup (h a oe cls dd pn hz hf)) fun σ H Q ⟨m, B, ρ, S, C, x, va, de, rs, ee, h1, h2, h3, h4, h5, p⟩ => by
  have hl := hl C de ρ S
  have p : Post X.K m B H (fun _ _ _ => False) (fun d _ m' H' => ∀ v, RD X.K m' B H' d v → Q v H') ((da C de ρ S).bind fun ds S1 => .ok (.tup ds) S1) := p
  refine ⟨m, B, ρ, S, C, x, va, de, rs, ee, h1, h2, h3, h4, h5, ?_⟩
  cases hr : da C de ρ S with
  | ok ds S1 =>
    rw [hr] at p hl
    refine fun m1 H1 g1 r1 vs rv => ⟨?_, fun q hq => ?_⟩
    · rw [← rv.len, hl, sizeLine_eq]
      omega
    · obtain ⟨g2, r2⟩ := r1.new (u := .tup vs) hq
      refine (show Post X.K m B H _ _ (R.ok (D.tup ds) S1) from p) m1 _ (g1.trans g2) r2 _ ?_
      unfold RD
      exact ⟨q, vs, rfl, .inl ⟨r1.notin hq, r1.notB hq, .inl upd_same⟩, RDs.mono g2.tr _ _ rv⟩
  | exc c d S1 => rw [hr] at p; exact fun m' H' x v g r hx rv => p m' H' x v g r hx rv
  | bad => rw [hr] at p; exact p
/-- isinstance(e, E) -/
theorem zx_is {f : Addr → Option Bool} {y : Str} {E : Addr} {p2 : Pos} (hf' : ∀ C b, f C = some b → ExcC X.K C ∧ PySem.W.kitOne X.K (.ref C) (.ref E) = some b) (hm : X.mg "isinstance" = none) (hE : X.mg y = some (.ref E)) (hi : X.N[i]? = some n := by rfl) (hv : Vis X.env.scope n := by first | exact Or.inl rfl | exact Or.inr (Or.inl rfl) | exact Or.inr (Or.inr rfl)) (hd : (n == ("__debug__" : Str)) = false := by decide) (hcd : (n == ("__classdict__" : Str)) = false := by decide)
    (hg : Gl X "isinstance" := by rfl) (hgE : Gl X y := by rfl) (hdE : (y == ("__debug__" : Str)) = false := by decide) (he : starEach [.Name n p0, .Name y p1] X.env = (false, eval (.Name n p0) X.env) :: starEach [.Name y p1] X.env := by rfl) (he2 : starEach [.Name y p1] X.env = (false, eval (.Name y p1) X.env) :: starEach [] X.env := by rfl) (hpl : (backTo pos (starEach [.Name y p1] X.env)).any (·.1) = false := by rfl) :
    ZX X i (.Call (.Name "isinstance" p2) [.Name n p0, .Name y p1] [] pos) (xIs f) := fun a oe cls dd pn hz hf => ⟨fun pins s σ H Q I ⟨m, B, ρ, S, C, x, va, de, rs, ee, h1, h2, h3, h4, h5, p⟩ => by
  have hgs : Gl (X.suite a ((a, oe) :: pn)) "isinstance" := hg
  unfold xIs at p
  split at p
  · rename_i k hk
    refine (pe_callB (X := X.suite a ((a, oe) :: pn)) (call_isX hz hf) hgs hm (show bootBuiltins "isinstance" = some (.builtin "isinstance") by decide +kernel) (pa_cons (pe_err (i := i) hi hv hd hcd) (pa_cons (pe_glob (X := X.suite a ((a, oe) :: pn)) (v := .ref E) hgE hE rfl hdE) pa_nil he2) he) (by decide) (by decide) he hpl).run pins s σ H Q I ?_
    exact ⟨h1, .ref E, .ref E, C, x, _, k, rfl, fun u ru => ru, h2, h3, h4, (hf' C k hk).1, (hf' C k hk).2, p.now rs _ (RDb _)⟩
  · exact p.elim⟩
/-- a if c else b -/
def xIf (c a b : DX) : DX := fun C d ρ S => (c C d ρ S).bind fun k S1 => match tru S1 k with
  | some true => a C d ρ S1
  | some false => b C d ρ S1
  | none => .bad
theorem zx_ifx (hc : ZX X i c dc) (ha : ZX X i e den) (hb : ZX X i b db) (he : ∀ whole, isTrue c X.env whole = (do let v ← whole; standAt c.pos; holding [v] (truthy v)) := by intro _; rfl) : ZX X i (.IfExp c e b pos) (xIf dc den db) := fun a oe cls dd pn hz hf =>
  pe_weak (pe_ifExp (pt_truth (X := X.suite a ((a, oe) :: pn)) (hc a oe cls dd pn hz hf) he) (ha a oe cls dd pn hz hf) (hb a oe cls dd pn hz hf)) fun σ H Q ⟨m, B, ρ, S, C, x, va, de, rs, ee, h1, h2, h3, h4, h5, p⟩ =>
    tX.take (f := fun k S1 => match tru S1 k with
      | some true => den C de ρ S1
      | some false => db C de ρ S1
      | none => .bad) rs ee h1 h2 h3 h4 h5 p fun d S1 m1 H1 v g1 r1 e1 rd x1 rd1 p1 => by
      cases h : tru S1 d with
      | none => simp only [h] at p1; exact p1.elim
      | some b =>
        simp only [h] at p1
        refine ⟨b, tru_is r1 rd h, ?_⟩
        cases b with
        | true => exact ⟨m1, B, ρ, S1, C, x, va, de, r1, e1, h1, h2, h3, x1, rd1, p1⟩
        | false => exact ⟨m1, B, ρ, S1, C, x, va, de, r1, e1, h1, h2, h3, x1, rd1, p1⟩
end

/-! ### try: .. except E as e: return .. -/
/-- mt: is the error's class one that is caught; i: e's slot; su: what is returned -/
def sTry (mt : Addr → Option Bool) (i : Nat) (db : DS) (su : DX) : DS := fun ρ S => match db ρ S with
  | .exc ρ' C d S' => match mt C with
    | some true => if i < ρ'.length then (su C d (ρ'.set i none) S').safe.to ρ' fun v S2 => .rt v S2 else .bad
    | some false => .exc ρ' C d S'
    | none => .bad
  | r => r
theorem REs.setX {K : PySem.W.Frag} {m B : List Addr} {H : Hp} : ∀ {ρ : Env} {σ : L2.St} (i : Nat) (x : Option V), REs K m B H ρ σ → REs K m B H (ρ.set i none) (σ.set i x)
  | [], _, _, _, h => by
    have h' : _ = _ := h
    rw [h']
    rfl
  | o :: ρ, σ, 0, y, ⟨x, r, e, h1, h2⟩ => by
    subst e
    exact ⟨y, r, rfl, fun d' q => (nomatch q), h2⟩
  | o :: ρ, σ, i + 1, y, ⟨x, r, e, h1, h2⟩ => by
    subst e
    exact ⟨x, _, rfl, h1, REs.setX i y h2⟩
def tSu (K : PySem.W.Frag) (i : Nat) (su : DX) (a : Addr) (cls : Value) (d : Option Addr) : TS := fun D σ H => tX K i a cls d su σ H fun v H' => D.rt v H'
section
variable {X : Cx} {i : Nat} {x n : Str} {c : Addr} {body : List Stmt} {re : Expr} {np pos pos' rp : Pos} {db : DS} {su : DX} {mt : Addr → Option Bool}
theorem zs_try (hst : X.stack = X.env :: X.outer) (hfr : X.env.frame = some X.env.locals) (hN : X.N.Nodup) (hm : X.mg x = some (.ref c)) (hmt : ∀ C b, mt C = some b → PySem.W.exmOne X.K (.ref C) (.ref c) = some b)
    (hb : ∀ (pn : List (Addr × Obj)) (xe : Value → Shared → Prop), PassesOwn (model X.prog X.w) X.A X.env xe → ZB (X.tr pn xe) body db) (hs : ZX X i re su) (hi : X.N[i]? = some n := by rfl) (hln : X.env.kindOf n = some .local := by rfl) (hg : Gl X x := by rfl) (hdb : (x == ("__debug__" : Str)) = false := by decide) :
    ZS X (.Try body [.ExceptHandler (some (.Name x np)) (some n) [.Return (some re) rp] pos'] [] [] pos) (sTry mt i db su) := fun W tk =>
  ps_weak (ps_try_as (tb := fun W => tS W X.K db) (ts := tSu X.K i su) (Wout := W) hst hfr hN hi hln ⟨hg, hdb, .inl hm⟩ tk (fun W' pn xe tk' hp => hb pn xe hp W' tk') fun a oe cls d pn hz hf => pss_one (ps_weak (ps_ret (hs a oe cls d pn hz hf)) fun E σ H h => h)) fun E σ H ⟨m, B, ρ, S, rs, e, p⟩ => by
    unfold sTry at p
    refine ⟨m, B, ρ, S, rs, e, ?_⟩
    cases hd : db ρ S with
    | nx ρ' S' => rw [hd] at p; exact p
    | rt d S' => rw [hd] at p; exact p
    | bk ρ' S' => rw [hd] at p; exact p
    | ct ρ' S' => rw [hd] at p; exact p
    | bad => rw [hd] at p; exact p
    | exc ρ' C d S' =>
      rw [hd] at p
      simp only at p
      intro m1 H1 σ1 xd v g1 r1 e1 hx rv
      cases hmC : mt C with
      | none => rw [hmC] at p; exact p.elim
      | some b =>
        rw [hmC] at p
        refine ⟨b, hmt C b hmC, fun hb' a ha => ?_, fun hb' => ?_⟩
        · subst hb'
          simp only at p
          split at p
          case isFalse => exact p.elim
          rename_i hlt
          have hσ : i < σ1.length := by rw [← e1.len]; exact hlt
          refine ⟨m1, B, ρ'.set i none, S', C, xd, v, d, r1, REs.setX i _ e1, by simp [hσ], rfl, rfl, hx, rv, ?_⟩
          cases hsu : su C d (ρ'.set i none) S' with
          | ok w S2 => rw [hsu] at p; exact fun m2 H2 g2 r2 v2 rv2 => p m2 H2 v2 (g1.trans g2) r2 rv2
          | exc _ _ _ => rw [hsu] at p; exact (show False from p).elim
          | bad => rw [hsu] at p; exact p
        · subst hb'
          exact p m1 H1 σ1 xd v g1 r1 e1 hx rv
end
end Z
namespace Z
open PySem PySem.W PySem.Calls PyProof.Rows L2 He

/-! ### facts by checks -/
theorem band {a b : Bool} (h : (a && b) = true) : a = true ∧ b = true := Bool.and_eq_true_iff.mp h
def nnB : Value → Value → Bool
  | .none, .none => true
  | _, _ => false
theorem nnB_ok {a b : Value} (h : nnB a b = true) : a = .none ∧ b = .none := by
  cases a <;> cases b <;> first | exact ⟨rfl, rfl⟩ | cases h
def strB (file : Str) : Option Value → Bool
  | some (.str fs _) => file == fs
  | _ => false
theorem strB_ok {file : Str} {o : Option Value} (h : strB file o = true) : ∃ fs tf, o = some (.str fs tf) ∧ (file == fs) = true := by
  cases o with
  | none => cases h
  | some v => cases v <;> first | exact ⟨_, _, rfl, h⟩ | cases h
def vsB (file : Str) : Option Obj → Bool
  | some ⟨_, _, .fields vs, _⟩ => strB file (vs[2]? : Option Value)
  | _ => false
theorem vsB_ok {file : Str} {o : Option Obj} (h : vsB file o = true) : ∃ a b vs c, o = some ⟨a, b, .fields vs, c⟩ ∧ strB file (vs[2]? : Option Value) = true := by
  cases o with
  | none => cases h
  | some o =>
    obtain ⟨a, b, dt, c⟩ := o
    cases dt <;> first | exact ⟨_, _, _, _, rfl, h⟩ | cases h
def codB (K : Frag) (file : Str) : Value → Bool
  | .ref cda => vsB file (K.lookup cda)
  | _ => false
theorem codB_ok {K : Frag} {file : Str} {v : Value} (h : codB K file v = true) : ∃ cda, v = .ref cda ∧ vsB file (K.lookup cda) = true := by
  cases v <;> first | exact ⟨_, rfl, h⟩ | cases h
def celB (D : Addr) : Option Obj → Bool
  | some ⟨_, _, .cell (some (.ref E)), _⟩ => decide (E = D)
  | _ => false
theorem celB_ok {D : Addr} {o : Option Obj} (h : celB D o = true) : ∃ a b c, o = some ⟨a, b, .cell (some (.ref D)), c⟩ := by
  cases o with
  | none => cases h
  | some o =>
    obtain ⟨a, b, dt, c⟩ := o
    cases dt <;> try (cases h; done)
    rename_i v
    cases v with
    | none => cases h
    | some v =>
      cases v <;> try (cases h; done)
      rename_i E
      have e : E = D := of_decide_eq_true h
      subst e
      exact ⟨_, _, _, rfl⟩
def cloB (K : Frag) (D : Addr) : List (Str × Addr) → Bool
  | [p] => celB D (K.lookup p.2)
  | _ => false
/-- an own error's class: its __init__ as the text has it -/
def errB (K : Frag) (prog : Program) (x : Str) : Bool :=
  (match K.lookup (ga K x) with
    | some ⟨.type t, _, .cls cd, sl⟩ => decide (t = "type") && (cd.hasDict && (!cd.hasDel && ((match cd.mro with
      | .ref c :: bm => decide (c = ga K x) && (PySem.HandSPX.refsVE bm && (match alongIn K "__init__" bm with
        | some (some (.builtin b)) => decide (b = "ValueError.__init__")
        | _ => false))
      | _ => false) && (match sl with
      | ⟨[_, _, _, _, some (.builtin b), _]⟩ => decide (b = "ValueError.__new__")
      | _ => false))))
    | _ => false) &&
  ((Fa.noat x "at").ok K && (eqO (findIn K (.ref (ga K x)) "__setattr__") (some (some (.builtin "object.__setattr__"))) && (decide (subIn K (.ref (ga K x)) (.type "BaseException") = some true) && (decide (typeIn K (.ref (ga K x)) = some (.type "type")) &&
  (keepIn K (.ref (ga K x)) && (eqO (nsIn K cStatics "thirdparty.any") (some none) && (!(prog.main.scope.names.lookup ("super" : Str)).isSome &&
  (eqO (findIn K (.ref (ga K x)) "__init__") (some (some (.ref (ma K (ga K x) "__init__")))) && (decide (typeIn K (.ref (ma K (ga K x) "__init__")) = some (.type "function")) &&
  (match K.lookup (ma K (ga K x) "__init__") with
    | some ⟨_, _, .func fd, _⟩ => nnB fd.defaults fd.kwdefaults && (codeIn K fd.code fd.qualname && (codB K prog.main.file fd.code && cloB K (ga K x) fd.closure))
    | _ => false))))))))))
theorem errB_ok {K : Frag} {prog : Program} {x : Str} {qual : Str} {p0 p1 p2 p3 p4 p5 q1 q2 q3 q4 r1 r2 : Pos} (h : errB K prog x = true) (hc : EiCall p0 p1 p2 p3 p4)
    (e : ∃ cc, fnW K (x, some "__init__") = some ((("__init__" : Str), qual, eiArgs r1 r2, FuncBody.stmts (eiBody p0 p1 p2 p3 p4 p5 q1 q2 q3 q4), eiScope, mainGlobals, [(("__class__" : Str), cc)], builtinsNs) : Str × Str × Arguments × FuncBody × Scope × Addr × List (Str × Addr) × Addr)) : ErrC K prog (ga K x) := by
  obtain ⟨a1, h⟩ := band h
  obtain ⟨a2, h⟩ := band h
  obtain ⟨a3, h⟩ := band h
  obtain ⟨a4, h⟩ := band h
  obtain ⟨a5, h⟩ := band h
  obtain ⟨a6, h⟩ := band h
  obtain ⟨a7, h⟩ := band h
  obtain ⟨a8, h⟩ := band h
  obtain ⟨a9, h⟩ := band h
  obtain ⟨a10, a11⟩ := band h
  refine ⟨?_, eqO_ok a3, eqO_ok a2, of_decide_eq_true a4, of_decide_eq_true a5, a6, eqO_ok a7, by simpa using a8, ?_⟩
  · split at a1
    · rename_i t od cd sl hl
      obtain ⟨b1, a1⟩ := band a1
      obtain ⟨b2, a1⟩ := band a1
      obtain ⟨b3, a1⟩ := band a1
      obtain ⟨b4, b5⟩ := band a1
      obtain ⟨nm, bs, mro, ns, qn, hd, sn, sb, ab, col, hdel⟩ := cd
      simp only at b2 b3 b4
      split at b4
      · rename_i c bm
        obtain ⟨c1, b4⟩ := band b4
        obtain ⟨c2, c3⟩ := band b4
        split at c3
        · rename_i b hb
          split at b5
          · rename_i k0 k1 k2 k3 b' k5
            have e1 := of_decide_eq_true b1
            have e2 := of_decide_eq_true c1
            have e3 := of_decide_eq_true c3
            have e4 := of_decide_eq_true b5
            have e5 : hdel = false := by cases hdel <;> simp_all
            subst e1 e3 e4 e5 b2 e2
            exact ⟨_, _, _, _, _, _, _, _, _, _, _, _, _, _, _, hl, c2, hb⟩
          · cases b5
        · cases c3
      · cases b4
    · cases a1
  · obtain ⟨cc, e⟩ := e
    have eA : fAd K (x, some "__init__") = ma K (ga K x) "__init__" := rfl
    unfold fnW at e
    rw [eA] at e
    split at a11
    · rename_i oc od fd osl hl
      obtain ⟨b1, a11⟩ := band a11
      obtain ⟨b2, a11⟩ := band a11
      obtain ⟨b3, b4⟩ := band a11
      rw [hl] at e
      obtain ⟨n1, n2, n3, n4, n5, n6, n7, n8, n9, n10, n11, n12, n13, n14, n15⟩ := fd
      simp only [Option.some.injEq, Prod.mk.injEq] at e
      obtain ⟨h1, h2, h3, h4, h5, h6, h7, h8⟩ := e
      subst h1 h2 h3 h4 h5 h6 h7 h8
      obtain ⟨e8, e9⟩ := nnB_ok b1
      have e8 : n8 = .none := e8
      have e9 : n9 = .none := e9
      obtain ⟨cda, e13, b3⟩ := codB_ok b3
      have e13 : n13 = .ref cda := e13
      subst e8 e9 e13
      obtain ⟨ccl, cdd, vs, ccs, hcl, b3⟩ := vsB_ok b3
      obtain ⟨fs, tf, hvs, b3⟩ := strB_ok b3
      obtain ⟨cl, cld, csl, hcell⟩ := celB_ok (show celB (ga K x) (K.lookup cc) = true from b4)
      exact ⟨_, cc, cda, _, p0, p1, p2, p3, p4, p5, q1, q2, q3, q4, r1, r2, _, _, _, _, _, _, _, _, _, _, _, _, _, vs, fs, tf, eqO_ok a9, of_decide_eq_true a10, hl, b2, hcl, hvs, b3, hc, hcell⟩
    · cases a11
/-- what isinstance needs of an error's class -/
def excCB (K : Frag) (x : Str) : Bool := eqO (findIn K (.ref (ga K x)) "__getattribute__") (some (some (.builtin "BaseException.__getattribute__"))) && (eqO (findIn K (.ref (ga K x)) "__getattr__") (some none) && (decide (subIn K (.ref (ga K x)) (.type "BaseException") = some true) && (hasDictIn K (ga K x) &&
  (eqO (findIn K (.ref (ga K x)) "__class__") (some (some (.builtin "object.__class__"))) && (decide (specialIn K (.builtin "object.__class__") "__get__" = some (some (.builtin "getset_descriptor.__get__"))) && (decide (takesIn K (.builtin "object.__class__") = some true) && decide (mroIn K (ga K x) (.type "object") = some true)))))))
theorem excCB_ok {K : Frag} {x : Str} (h : excCB K x = true) : ExcC K (ga K x) := by
  obtain ⟨a1, h⟩ := band h
  obtain ⟨a2, h⟩ := band h
  obtain ⟨a3, h⟩ := band h
  obtain ⟨a4, h⟩ := band h
  obtain ⟨a5, h⟩ := band h
  obtain ⟨a6, h⟩ := band h
  obtain ⟨a7, a8⟩ := band h
  exact ⟨eqO_ok a1, eqO_ok a2, of_decide_eq_true a3, a4, eqO_ok a5, of_decide_eq_true a6, of_decide_eq_true a7, of_decide_eq_true a8⟩
/-- the own classes at cs, for isinstance -/
def kitB (K : Frag) (xs : List Str) : Bool :=
  xs.all (fun x => (Fa.cls x).ok K && (eqO (findIn K (.ref (ga K x)) "__class__") (some (some (.builtin "object.__class__"))) && (decide (mroIn K (ga K x) (.type "object") = some true) &&
    (tNames.all (fun T => decide (kitOne K (.ref (ga K x)) (.type T) = some false) && decide (kitOne K (.type T) (.ref (ga K x)) = some false)) && xs.all (fun y => decide (kitOne K (.ref (ga K x)) (.ref (ga K y)) = some (decide (ga K x = ga K y)))))))) &&
  (decide (specialIn K (.builtin "object.__class__") "__get__" = some (some (.builtin "getset_descriptor.__get__"))) && decide (takesIn K (.builtin "object.__class__") = some true))
theorem kitB_ok {K : Frag} {xs : List Str} (h : kitB K xs = true) : Kit K (xs.map (ga K)) := by
  obtain ⟨h, a2⟩ := band h
  obtain ⟨a2, a3⟩ := band a2
  have h := List.all_eq_true.mp h
  have key : ∀ c ∈ xs.map (ga K), ∃ x ∈ xs, c = ga K x := fun c hc => by
    obtain ⟨x, hx, e⟩ := List.mem_map.mp hc
    exact ⟨x, hx, e.symm⟩
  refine ⟨fun c hc => ?_, fun c hc => ?_, of_decide_eq_true a2, of_decide_eq_true a3, fun c hc => ?_, fun c hc T hT => ?_, fun c hc T hT => ?_, fun c hc D hD => ?_⟩
  all_goals
    obtain ⟨x, hx, rfl⟩ := key _ hc
    obtain ⟨b1, b⟩ := band (h x hx)
    obtain ⟨b2, b⟩ := band b
    obtain ⟨b3, b⟩ := band b
    obtain ⟨b4, b5⟩ := band b
  · exact cls_ok b1
  · exact eqO_ok b2
  · exact of_decide_eq_true b3
  · exact of_decide_eq_true (band (List.all_eq_true.mp b4 T hT)).1
  · exact of_decide_eq_true (band (List.all_eq_true.mp b4 T hT)).2
  · obtain ⟨y, hy, rfl⟩ := key _ hD
    exact of_decide_eq_true (List.all_eq_true.mp b5 y hy)
/-- a name that is no attribute of the classes -/
def noAttB (K : Frag) (xs : List Str) (f : Str) : Bool := xs.all fun x => (Fa.cls x).ok K && (Fa.noat x f).ok K
theorem noAttB_ok {K : Frag} {xs : List Str} {f : Str} (h : noAttB K xs f = true) : NoAtt K (xs.map (ga K)) f := fun c hc => by
  obtain ⟨x, hx, rfl⟩ := List.mem_map.mp hc
  obtain ⟨b1, b2⟩ := band (List.all_eq_true.mp h x hx)
  exact ⟨cls_ok b1, noat_ok b2⟩
def kitOneB (K : Frag) (x y : Str) (b : Bool) : Bool := decide (kitOne K (.ref (ga K x)) (.ref (ga K y)) = some b)
theorem kitOneB_ok {K : Frag} {x y : Str} {b : Bool} (h : kitOneB K x y b = true) : kitOne K (.ref (ga K x)) (.ref (ga K y)) = some b := of_decide_eq_true h

/-! ### a def as the callers see it -/
/-- dl: its defaults -/
structure Df (P : Program) (w : World) (K : Frag) (mg : Str → Option Value) (base : Heap) (x : Str) (k n : Nat) (F : List D → Sto → R D) (dl : List D) : Prop where
  ex : ∃ (f : Addr) (fd : FuncData) (ps : List Str), FnOk P w K mg base (L2.CX P w) k f fd ps (spI K n F) ∧ mg x = some (.ref f) ∧ keepIn K (.ref f) = true ∧ ∀ j, j ≤ dl.length → ∃ ds dvs, Binds K fd ps ds ∧ Vals dvs ds ∧ ∀ m B H, RDs K m B H (dl.drop j) dvs
/-- a class that is called: its __init__ -/
structure Dk (P : Program) (w : World) (K : Frag) (mg : Str → Option Value) (base : Heap) (x : Str) (C : Addr) (k n : Nat) (F : List D → Sto → R D) (dl : List D) : Prop where
  ex : ∃ f, Mk K C f ∧ ∃ (fd : FuncData) (ps : List Str), FnOk P w K mg base (L2.CX P w) k f fd ps (spI K n F) ∧ ∀ j, j ≤ dl.length → ∃ ds dvs, Binds K fd ps ds ∧ Vals dvs ds ∧ ∀ m B H, RDs K m B H (dl.drop j) dvs
  mg : mg x = some (.ref C)
/-- a method -/
structure Dm (P : Program) (w : World) (K : Frag) (mg : Str → Option Value) (base : Heap) (C : Addr) (mt : Str) (k n : Nat) (F : List D → Sto → R D) (dl : List D) : Prop where
  cl : Cls K C
  ex : ∃ (f : Addr) (fd : FuncData) (ps : List Str), Meth K C mt f ∧ FnOk P w K mg base (L2.CX P w) k f fd ps (spI K n F) ∧ ∀ j, j ≤ dl.length → ∃ ds dvs, Binds K fd ps ds ∧ Vals dvs ds ∧ ∀ m B H, RDs K m B H (dl.drop j) dvs
section
variable {X : Cx} {x : Str} {k n : Nat} {F : List D → Sto → R D} {dl : List D} {pos p0 apos : Pos} {e o : Expr} {es : List Expr} {t : DA} {dobj : DE} {C : Addr}
theorem zd_call (G : Df X.prog X.w X.K X.mg X.base x k n F dl) (j : Nat) (hr : Room k X.A) (ha : ZA X (e :: es) t) (hj : j ≤ dl.length := by decide) (hg : Gl X x := by rfl) (hdb : (x == ("__debug__" : Str)) = false := by decide)
    (he : starEach (e :: es) X.env = (false, eval e X.env) :: starEach es X.env := by rfl) (hpl : (backTo pos (starEach es X.env)).any (·.1) = false := by rfl) : ZE X (.Call (.Name x p0) (e :: es) [] pos) (eFn n F (dl.drop j) t) := by
  obtain ⟨f, fd, ps, ok, hm, hk, hb⟩ := G.ex
  obtain ⟨ds, dvs, b1, b2, b3⟩ := hb j hj
  exact ze_call ⟨ok, hm, hk⟩ hr b1 b2 b3 ha hg hdb he hpl
theorem zd_call0 (G : Df X.prog X.w X.K X.mg X.base x k n F dl) (j : Nat) (hr : Room k X.A) (hj : j ≤ dl.length := by decide) (hg : Gl X x := by rfl) (hdb : (x == ("__debug__" : Str)) = false := by decide) : ZE X (.Call (.Name x p0) [] [] pos) (eFn n F (dl.drop j) aN) := by
  obtain ⟨f, fd, ps, ok, hm, hk, hb⟩ := G.ex
  obtain ⟨ds, dvs, b1, b2, b3⟩ := hb j hj
  exact ze_call0 ⟨ok, hm, hk⟩ hr b1 b2 b3 hg hdb
theorem zd_mk (G : Dk X.prog X.w X.K X.mg X.base x C k n F dl) (j : Nat) (hr : Room (k + 1) X.A) (ha : ZA X (e :: es) t) (hj : j ≤ dl.length := by decide) (hg : Gl X x := by rfl) (hdb : (x == ("__debug__" : Str)) = false := by decide)
    (he : starEach (e :: es) X.env = (false, eval e X.env) :: starEach es X.env := by rfl) (hpl : (backTo pos (starEach es X.env)).any (·.1) = false := by rfl) : ZE X (.Call (.Name x p0) (e :: es) [] pos) (eMk C n F (dl.drop j) t) := by
  obtain ⟨f, M, fd, ps, ok, hb⟩ := G.ex
  obtain ⟨ds, dvs, b1, b2, b3⟩ := hb j hj
  exact ze_mk M ok hr G.mg b1 b2 b3 ha hg hdb he hpl
theorem zd_mk0 (G : Dk X.prog X.w X.K X.mg X.base x C k n F dl) (j : Nat) (hr : Room (k + 1) X.A) (hj : j ≤ dl.length := by decide) (hg : Gl X x := by rfl) (hdb : (x == ("__debug__" : Str)) = false := by decide) : ZE X (.Call (.Name x p0) [] [] pos) (eMk C n F (dl.drop j) aN) := by
  obtain ⟨f, M, fd, ps, ok, hb⟩ := G.ex
  obtain ⟨ds, dvs, b1, b2, b3⟩ := hb j hj
  exact ze_mk0 M ok hr G.mg b1 b2 b3 hg hdb
theorem zd_meth {cs : List Addr} {mt : Str} {pl : Sem Bool} (G : Dm X.prog X.w X.K X.mg X.base C mt k n F dl) (j : Nat) (hr : Room k X.A) (ho : ZE X o dobj) (ha : ZA X (e :: es) t) (hj : j ≤ dl.length := by decide)
    (hst : starEach (e :: es) X.env = (false, eval e X.env) :: starEach es X.env := by rfl) (hpl : (backTo pos (starEach es X.env)).any (·.1) = false := by rfl)
    (ht : eval (.Call (.Attribute o mt apos) (e :: es) [] pos) X.env = (do
      let ov ← eval o X.env
      standAt apos.atName
      let (f, first) ← holding [ov] (getMethod ov mt pl)
      callWith pos f first (backTo pos (starEach (e :: es) X.env)) (backToKw pos (keywordEach [] X.env))) := by rfl) : ZE X (.Call (.Attribute o mt apos) (e :: es) [] pos) (eMt cs mt C n F (dl.drop j) dobj t) := by
  obtain ⟨f, fd, ps, hm, ok, hb⟩ := G.ex
  obtain ⟨ds, dvs, b1, b2, b3⟩ := hb j hj
  exact ze_meth (pl := pl) ho G.cl hm ok hr b1 b2 b3 ha hst hpl ht
theorem zd_meth0 {cs : List Addr} {mt : Str} {pl : Sem Bool} (G : Dm X.prog X.w X.K X.mg X.base C mt k n F dl) (j : Nat) (hr : Room k X.A) (ho : ZE X o dobj) (hj : j ≤ dl.length := by decide)
    (ht : eval (.Call (.Attribute o mt apos) [] [] pos) X.env = (do
      let ov ← eval o X.env
      standAt apos.atName
      let (f, first) ← holding [ov] (getMethod ov mt pl)
      callWith pos f first (backTo pos (starEach [] X.env)) (backToKw pos (keywordEach [] X.env))) := by rfl) : ZE X (.Call (.Attribute o mt apos) [] [] pos) (eMt cs mt C n F (dl.drop j) dobj aN) := by
  obtain ⟨f, fd, ps, hm, ok, hb⟩ := G.ex
  obtain ⟨ds, dvs, b1, b2, b3⟩ := hb j hj
  exact ze_meth0 (pl := pl) ho G.cl hm ok hr b1 b2 b3 ht
end
/-- no defaults -/
theorem binds_none {K : Frag} {x qual : Str} {params : Arguments} {body : List Stmt} {scope : Scope} {kws : List (Str × V)} {f : Addr} {fd : FuncData} {ps : List Str} (F : FunD K x qual params body scope [] kws f fd)
    (h : ∀ (kV doc pm : Value) (an : Option Addr) (cdv ct : Value) (us : List Value), us.length = ps.length → bindArgs (PySem.W.fnOf x qual params body scope .none kV doc pm an cdv ct) ⟨us, []⟩ = pure (ps.zip us)) :
    ∀ j, j ≤ ([] : List D).length → ∃ ds dvs, Binds K fd ps ds ∧ Vals dvs ds ∧ ∀ m B H, RDs K m B H (([] : List D).drop j) dvs := fun j _ => ⟨[], [], F.bindsN h, .nil, fun _ _ _ => by rw [List.drop_nil]; exact RDs.nil⟩
end Z
namespace Z
open PySem L2
theorem hu65 {k : Nat} {A : Around} (r : Room k A) : A.units + 65 < cLine := by
  have := r.un
  omega
theorem exB {l : List Bool} (e : l.all id = true) (i : Nat) {x : Bool} (h : l[i]? = some x) : x = true := List.all_eq_true.mp e x (List.mem_of_getElem? h)
/-- the class's cell that its __init__ holds -/
def cel (K : PySem.W.Frag) (x : Str) : Addr := match K.lookup (He.ma K (He.ga K x) "__init__") with
  | some ⟨_, _, .func fd, _⟩ => (match fd.closure with
    | [p] => p.2
    | _ => 0)
  | _ => 0
def He_xfB (K : PySem.W.Frag) (x : Str) : Bool := xfB K (He.ga K x)
theorem zb_bad {X : Cx} {sts : List Stmt} : ZB X sts fun _ _ => .bad := fun W tk => ⟨fun pins s σ H D I ⟨m, B, ρ, S, rs, e, p⟩ => p.elim⟩
def fNotB : D → D → Sto → R D
  | .bl a, .bl b, S => .ok (.bl (!decide (a = b))) S
  | _, _, _ => .bad
theorem okNotB {K : PySem.W.Frag} : OkOp K rNotB fNotB := by
  intro m B H S d e x y W Q rs rd re p
  cases d <;> try exact p.elim
  rename_i i
  cases e <;> try exact p.elim
  rename_i j
  unfold RD at rd re
  subst rd re
  exact ⟨i, j, rfl, rfl, p.now rs _ (RDb _)⟩
section
variable {X : Cx} {pos : Pos} {a b : Expr} {da db : DE}
theorem ze_notB (ha : ZE X a da) (hb : ZE X b db) : ZE X (.Compare a [.IsNot] [b] pos) (e2 fNotB da db) := ze_cmp op_notBl okNotB ha hb (nomark _)
theorem zt_notB (ha : ZE X a da) (hb : ZE X b db) : ZT X (.Compare a [.IsNot] [b] pos) (tVB (e2 fNotB da db)) := zt_cmp op_notBl okNotB ha hb (nomark _)
end
end Z
namespace Z
open PySem L2

/-! ### plain laws: what comprehensions, loops, places come to -/
theorem lcI_map {tg : Tg} {chk : Sto → Prop} {e : DE} {ρ0 : Env} {S : Sto} (g : D → D) (hc : chk S) : ∀ ds : List D, (∀ d ∈ ds, ∃ ρ1, Tg.asg S tg d ρ0 = some ρ1 ∧ e ρ1 S = .ok (g d) S) → lcI tg chk tYes e ρ0 ds S = .ok (ds.map g) S
  | [], _ => by simp [lcI]
  | d :: ds, h => by
    obtain ⟨ρ1, h1, h2⟩ := h d (List.mem_cons_self ..)
    have ih := lcI_map g hc ds fun d hd => h d (List.mem_cons_of_mem _ hd)
    simp [lcI, h1, tYes, h2, hc, ih]
theorem lcI_filter {tg : Tg} {chk : Sto → Prop} {t : DT} {e : DE} {ρ0 : Env} {S : Sto} (p : D → Bool) (g : D → D) (hc : chk S) : ∀ ds : List D, (∀ d ∈ ds, ∃ ρ1, Tg.asg S tg d ρ0 = some ρ1 ∧ t ρ1 S = .ok (p d) S ∧ (p d = true → e ρ1 S = .ok (g d) S)) → lcI tg chk t e ρ0 ds S = .ok ((ds.filter p).map g) S
  | [], _ => by simp [lcI]
  | d :: ds, h => by
    obtain ⟨ρ1, h1, h2, h3⟩ := h d (List.mem_cons_self ..)
    have ih := lcI_filter p g hc ds fun d hd => h d (List.mem_cons_of_mem _ hd)
    cases hp : p d with
    | true => simp [lcI, h1, h2, hp, h3 hp, hc, ih]
    | false => simp [lcI, h1, h2, hp, hc, ih]
theorem iRow_mem {lo : Int} {n : Nat} {d : D} (h : d ∈ iRow lo n) : ∃ i, i < n ∧ d = .int (lo + (i : Nat)) := by
  unfold iRow at h
  obtain ⟨i, hi, rfl⟩ := List.mem_map.mp h
  exact ⟨i, List.mem_range.mp hi, rfl⟩
def dI : D → Int
  | .int i => i
  | _ => 0
@[simp] theorem dI_int (i : Int) : dI (.int i) = i := rfl
theorem iRow_map (lo : Int) (n : Nat) (g : D → D) : (iRow lo n).map g = (List.range n).map fun i => g (.int (lo + (i : Nat))) := by simp [iRow, Function.comp_def]
/-- over a range -/
theorem lcI_range {j : Nat} {chk : Sto → Prop} {e : DE} {ρ0 : Env} {S : Sto} {n : Nat} {lo : Int} (g : Nat → D) (hc : chk S) (h : ∀ i, i < n → e (ρ0.set j (some (.int (lo + (i : Nat))))) S = .ok (g i) S) : lcI (.nm j) chk tYes e ρ0 (iRow lo n) S = .ok ((List.range n).map g) S := by
  rw [lcI_map (fun d => g (dI d - lo).toNat) hc (iRow lo n) fun d hd => ?_]
  · rw [iRow_map]
    congr 1
    apply List.map_congr_left
    intro i _
    simp only [dI_int]
    congr 1
    omega
  · obtain ⟨i, hi, rfl⟩ := iRow_mem hd
    refine ⟨_, rfl, ?_⟩
    rw [h i hi]
    simp only [dI_int]
    congr 2
    omega
theorem lc2I_flat {tg : Tg} {chk : Sto → Prop} {inn : DA} {ρ0 : Env} {S : Sto} (g : D → List D) (hc : chk S) : ∀ ds : List D, (∀ d ∈ ds, ∃ ρ1, Tg.asg S tg d ρ0 = some ρ1 ∧ inn ρ1 S = .ok (g d) S) → lc2I tg chk tYes inn ρ0 ds S = .ok (ds.flatMap g) S
  | [], _ => by simp [lc2I]
  | d :: ds, h => by
    obtain ⟨ρ1, h1, h2⟩ := h d (List.mem_cons_self ..)
    have ih := lc2I_flat g hc ds fun d hd => h d (List.mem_cons_of_mem _ hd)
    simp [lc2I, h1, tYes, h2, hc, ih]
/-- a loop whose turns keep P -/
theorem forI_inv {tg : Tg} {chk : Sto → Prop} {b : DS} (P : List D → Env → Sto → Prop) : ∀ (ds : List D) (ρ : Env) (S : Sto), P ds ρ S → (∀ d r ρ S, P (d :: r) ρ S → ∃ ρ1, Tg.asg S tg d ρ = some ρ1 ∧ ∃ ρ' S', (b ρ1 S = .nx ρ' S' ∨ b ρ1 S = .ct ρ' S') ∧ chk S' ∧ P r ρ' S') → ∃ ρ' S', forI tg b chk ds ρ S = .nx ρ' S' ∧ P [] ρ' S'
  | [], ρ, S, h, _ => ⟨ρ, S, rfl, h⟩
  | d :: ds, ρ, S, h, step => by
    obtain ⟨ρ1, h1, ρ', S', h2, h3, h4⟩ := step d ds ρ S h
    obtain ⟨ρ2, S2, h5, h6⟩ := forI_inv P ds ρ' S' h4 step
    refine ⟨ρ2, S2, ?_, h6⟩
    rcases h2 with h2 | h2 <;> simp [forI, h1, h2, h3, h5]
theorem forI_keep {tg : Tg} {chk : Sto → Prop} {b : DS} (P : Env → Sto → Prop) (ds : List D) (ρ : Env) (S : Sto) (h : P ρ S) (step : ∀ d ∈ ds, ∀ ρ S, P ρ S → ∃ ρ1, Tg.asg S tg d ρ = some ρ1 ∧ ∃ ρ' S', (b ρ1 S = .nx ρ' S' ∨ b ρ1 S = .ct ρ' S') ∧ chk S' ∧ P ρ' S') : ∃ ρ' S', forI tg b chk ds ρ S = .nx ρ' S' ∧ P ρ' S' := by
  obtain ⟨ρ', S', h1, h2, h3⟩ := forI_inv (tg := tg) (chk := chk) (b := b) (fun r ρ S => (∀ d ∈ r, d ∈ ds) ∧ P ρ S) ds ρ S ⟨fun _ h => h, h⟩ fun d r ρ S ⟨g1, g2⟩ => by
    obtain ⟨ρ1, h1, ρ', S', h2, h3, h4⟩ := step d (g1 d (List.mem_cons_self ..)) ρ S g2
    exact ⟨ρ1, h1, ρ', S', h2, h3, fun d hd => g1 d (List.mem_cons_of_mem _ hd), h4⟩
  exact ⟨ρ', S', h1, h3⟩
theorem fLt_ii (i j : Int) (S : Sto) : fLt (.int i) (.int j) S = .ok (.bl (decide (i < j))) S := rfl
theorem fLe_ii (i j : Int) (S : Sto) : fLe (.int i) (.int j) S = .ok (.bl (decide (i ≤ j))) S := rfl
theorem fGt_ii (i j : Int) (S : Sto) : fGt (.int i) (.int j) S = .ok (.bl (decide (j < i))) S := rfl
theorem fGe_ii (i j : Int) (S : Sto) : fGe (.int i) (.int j) S = .ok (.bl (decide (j ≤ i))) S := rfl
theorem fSub_ii (i j : Int) (S : Sto) : fSub (.int i) (.int j) S = .ok (.int (i - j)) S := rfl
theorem fMod_ii (i j : Int) (S : Sto) : fMod (.int i) (.int j) S = if 0 < j then .ok (.int (i % j)) S else .bad := by
  by_cases h : 0 < j <;> simp [fMod, fI, h]
theorem fMul_ii (i j : Int) (S : Sto) : fMul (.int i) (.int j) S = if mulOk i j = true then .ok (.int (i * j)) S else .bad := rfl
theorem fDiv_ii (i j : Int) (S : Sto) : fDiv (.int i) (.int j) S = if divOk i j = true then .ok (.int (i / j)) S else .bad := rfl
theorem fPow_ii (i j : Int) (S : Sto) : fPow (.int i) (.int j) S = if powOk i j = true then .ok (.int (i ^ j.toNat)) S else .bad := rfl
theorem mulOk_l {i j : Int} (h : i.natAbs < 18446744073709551616) : mulOk i j = true := decide_eq_true (.inl h)
theorem mulOk_r {i j : Int} (h : j.natAbs < 18446744073709551616) : mulOk i j = true := decide_eq_true (.inr (.inl h))
theorem divOk_of {i j : Int} (h : 0 < j) (h2 : j.natAbs < 2 ^ 9000) : divOk i j = true := by
  refine decide_eq_true ⟨h, ?_⟩
  by_cases h0 : j.natAbs = 0
  · omega
  · exact (Nat.log2_lt h0).mpr h2
theorem seq_set {i : Nat} {a : DE} {r : DS} {ρ : Env} {S S' : Sto} {d : D} (h : a ρ S = .ok d S') : sSeq (sSet i a) r ρ S = r (ρ.set i (some d)) S' := by simp [sSeq, sSet, h]
theorem seq_par {i j : Nat} {a b : DE} {r : DS} {ρ : Env} {S S1 S' : Sto} {d e : D} (h : a ρ S = .ok d S1) (h2 : b ρ S1 = .ok e S') : sSeq (sPar i j a b) r ρ S = r ((ρ.set i (some d)).set j (some e)) S' := by simp [sSeq, sPar, h, h2]
theorem seq_nx {a r : DS} {ρ ρ' : Env} {S S' : Sto} (h : a ρ S = .nx ρ' S') : sSeq a r ρ S = r ρ' S' := by simp [sSeq, h]
theorem for_nx {tg : Tg} {i : DI} {b : DS} {ρ : Env} {S S1 : Sto} {ds : List D} {chk : Sto → Prop} (h : i ρ S = .ok (ds, chk) S1) : sFor tg i b ρ S = forI tg b chk ds ρ S1 := by simp [sFor, h]
theorem ret_rt {a : DE} {ρ : Env} {S S' : Sto} {d : D} (h : a ρ S = .ok d S') : sRet a ρ S = .rt d S' := by simp [sRet, h]
theorem run_rt {N : Nat} {den : DS} {ds : List D} {S S' : Sto} {d : D} (h : den (env0 N ds) S = .rt d S') : runB N den ds S = .ok d S' := by simp [runB, h]
theorem seq_asg {tg : Tg} {a : DE} {r : DS} {ρ ρ' : Env} {S S' : Sto} {d : D} (h : a ρ S = .ok d S') (h2 : Tg.asg S' tg d ρ = some ρ') : sSeq (sAsg tg a) r ρ S = r ρ' S' := by simp [sSeq, sAsg, h, h2]
theorem seq_iff {t : DT} {x y r : DS} {ρ ρ' : Env} {S S' S2 : Sto} (h : t ρ S = .ok false S') (h2 : y ρ S' = .nx ρ' S2) : sSeq (sIf t x y) r ρ S = r ρ' S2 := by simp [sSeq, sIf, h, h2]
theorem seq_ift {t : DT} {x y r : DS} {ρ ρ' : Env} {S S' S2 : Sto} (h : t ρ S = .ok true S') (h2 : x ρ S' = .nx ρ' S2) : sSeq (sIf t x y) r ρ S = r ρ' S2 := by simp [sSeq, sIf, h, h2]
theorem seq_skip {t : DT} {x r : DS} {ρ : Env} {S S' : Sto} (h : t ρ S = .ok false S') : sSeq (sIf t x sNx) r ρ S = r ρ S' := by simp [sSeq, sIf, h, sNx]
theorem seq_drop {a : DE} {r : DS} {ρ : Env} {S S' : Sto} {d : D} (h : a ρ S = .ok d S') : sSeq (sDrop a) r ρ S = r ρ S' := by simp [sSeq, sDrop, h]
theorem set_nx {i : Nat} {a : DE} {ρ : Env} {S S' : Sto} {d : D} (h : a ρ S = .ok d S') : sSet i a ρ S = .nx (ρ.set i (some d)) S' := by simp [sSet, h]
theorem if_f {t : DT} {x y : DS} {ρ : Env} {S S' : Sto} (h : t ρ S = .ok false S') : sIf t x y ρ S = y ρ S' := by simp [sIf, h]
theorem if_t {t : DT} {x y : DS} {ρ : Env} {S S' : Sto} (h : t ρ S = .ok true S') : sIf t x y ρ S = x ρ S' := by simp [sIf, h]
theorem e2_ok {f : D → D → Sto → R D} {a b : DE} {ρ : Env} {S S1 S2 : Sto} {x y : D} (ha : a ρ S = .ok x S1) (hb : b ρ S1 = .ok y S2) : Z.e2 f a b ρ S = f x y S2 := by simp [Z.e2, ha, hb]
theorem e1_ok {f : D → Sto → R D} {a : DE} {ρ : Env} {S S1 : Sto} {x : D} (ha : a ρ S = .ok x S1) : Z.e1 f a ρ S = f x S1 := by simp [Z.e1, ha]
theorem fn1_ok {F : List D → Sto → R D} {a : DE} {ρ : Env} {S S1 : Sto} {x : D} (ha : a ρ S = .ok x S1) : eFn 1 F [] (aC a aN) ρ S = F [x] S1 := by simp [eFn, aC, aN, ha]
theorem fn2_ok {F : List D → Sto → R D} {a b : DE} {ρ : Env} {S S1 S2 : Sto} {x y : D} (ha : a ρ S = .ok x S1) (hb : b ρ S1 = .ok y S2) : eFn 2 F [] (aC a (aC b aN)) ρ S = F [x, y] S2 := by simp [eFn, aC, aN, ha, hb]
theorem fn3_ok {F : List D → Sto → R D} {a b d : DE} {ρ : Env} {S S1 S2 S3 : Sto} {x y z : D} (ha : a ρ S = .ok x S1) (hb : b ρ S1 = .ok y S2) (hd : d ρ S2 = .ok z S3) : eFn 3 F [] (aC a (aC b (aC d aN))) ρ S = F [x, y, z] S3 := by simp [eFn, aC, aN, ha, hb, hd]
theorem asg_nm (S : Sto) (i : Nat) (a : D) (ρ : Env) : Tg.asg S (.nm i) a ρ = some (ρ.set i (some a)) := by simp [Tg.asg]
theorem asg_p2 (S : Sto) (i j : Nat) (a b : D) (ρ : Env) : Tg.asg S (.tp [.nm i, .nm j]) (.tup [a, b]) ρ = some ((ρ.set i (some a)).set j (some b)) := by simp [Tg.asg, Tg.asgs, seqOf]
theorem asg_p3 (S : Sto) (i j l : Nat) (a b d : D) (ρ : Env) : Tg.asg S (.tp [.nm i, .nm j, .nm l]) (.tup [a, b, d]) ρ = some (((ρ.set i (some a)).set j (some b)).set l (some d)) := by simp [Tg.asg, Tg.asgs, seqOf]
theorem asg_n2 (S : Sto) (i j l : Nat) (a b d : D) (ρ : Env) : Tg.asg S (.tp [.nm i, .tp [.nm j, .nm l]]) (.tup [a, .tup [b, d]]) ρ = some (((ρ.set i (some a)).set j (some b)).set l (some d)) := by simp [Tg.asg, Tg.asgs, seqOf]
theorem rgOk_nat {n : Nat} (h : n ≤ 1000000) : rgOk ((n : Nat) : Int) = true := by
  unfold rgOk
  exact Nat.blt_eq.mpr (by omega)
theorem iR1_nat {a : DE} {ρ : Env} {S S' : Sto} {n : Nat} (h : a ρ S = .ok (.int (n : Nat)) S') (hn : n ≤ 1000000) : iR1 a ρ S = .ok (iRow 0 n, fun _ => True) S' := by
  unfold iR1
  rw [h]
  simp only [R.bind_ok]
  rw [if_pos (rgOk_nat hn)]
  rfl
theorem iR2_nat {a b : DE} {ρ : Env} {S S' S2 : Sto} {i n : Nat} (h : a ρ S = .ok (.int (i : Nat)) S') (h2 : b ρ S' = .ok (.int (n : Nat)) S2) (hi : i ≤ 1000000) (hn : n ≤ 1000000) : iR2 a b ρ S = .ok (iRow i (n - i), fun _ => True) S2 := by
  unfold iR2
  rw [h]
  simp only [R.bind_ok]
  rw [h2]
  simp only [R.bind_ok]
  rw [if_pos ⟨rgOk_nat hi, rgOk_nat hn⟩]
  congr 3
  omega
theorem atI_nat {α : Type} (xs : List α) (i : Nat) : L2.atI xs ((i : Nat) : Int) = xs[i]? := by
  unfold L2.atI ixN
  by_cases h : i < xs.length
  · rw [if_pos (by omega), if_pos (by omega)]
    simp
  · rw [if_pos (by omega), if_neg (by omega)]
    simp at h
    simp [h]
theorem atI_0 {α : Type} (x : α) (xs : List α) : L2.atI (x :: xs) 0 = some x := by
  have := atI_nat (x :: xs) 0
  simpa using this
theorem atI_1 {α : Type} (x y : α) (xs : List α) : L2.atI (x :: y :: xs) 1 = some y := by
  have := atI_nat (x :: y :: xs) 1
  simpa using this
theorem atI_2 {α : Type} (x y z : α) (xs : List α) : L2.atI (x :: y :: z :: xs) 2 = some z := by
  have := atI_nat (x :: y :: z :: xs) 2
  simpa using this
theorem ixN_nat (n i : Nat) (h : i < n) : ixN n ((i : Nat) : Int) = some i := by
  unfold ixN
  rw [if_pos (by omega), if_pos (by omega)]
  simp
theorem ixN_m1 (n : Nat) (h : 0 < n) : ixN n (-1) = some (n - 1) := by
  unfold ixN
  rw [if_neg (by omega), if_pos (by omega)]
  congr 1
  omega
theorem bools_map {α : Type} (f : α → Bool) : ∀ xs : List α, bools (xs.map fun x => D.bl (f x)) = some (xs.map f)
  | [] => rfl
  | x :: xs => by simp [bools, bools_map f xs]
theorem bools_true {α : Type} (xs : List α) : bools (xs.map fun _ => D.bl true) = some (xs.map fun _ => true) := bools_map (fun _ => true) xs
theorem enumF_mem : ∀ {k : Nat} {ds : List D} {d : D}, d ∈ enumF k ds → ∃ i x, ds[i]? = some x ∧ d = .tup [.int ((k + i : Nat) : Int), x]
  | _, [], _, h => by simp [enumF] at h
  | k, x :: ds, d, h => by
    simp only [enumF, List.mem_cons] at h
    rcases h with rfl | h
    · exact ⟨0, x, by simp, by simp⟩
    · obtain ⟨i, y, h1, rfl⟩ := enumF_mem h
      refine ⟨i + 1, y, by simpa using h1, ?_⟩
      congr 4
      omega
theorem eqD_int (S : Sto) (i j : Int) : eqD S (.int i) (.int j) = some (decide (i = j)) := by
  have e : SeqAt.shaped (.int i) = true := rfl
  have e' : SeqAt.shaped (.int j) = true := rfl
  unfold eqD
  simp only [toP, e, e', and_self, if_true, PyData.eqv]
  congr 1
end Z
namespace Z
open PySem L2
/-! ### the end: a law's walk from its plain law -/
def scrD (xs : List Int) : List D := xs.map .int
theorem sp_scr (K : PySem.W.Frag) {F : List D → Sto → R D} (H : Hp) (a : Addr) (ns : List Int) (hS : SqL K H a (ns.map V.int)) (hl : ∃ S, F [.scr (scrD ns)] [] = .ok (.bl true) S) : spI K 1 F [.ref a] H (fun v _ => v = .bl true) fun _ _ _ => False := by
  obtain ⟨S, hl⟩ := hl
  refine ⟨[], [], [.scr (scrD ns)], [], ⟨rfl, List.nodup_nil, fun a h => absurd h (by simp), fun b h => absurd h (by simp), fun n a o h => by simp at h, fun n P q h => by simp at h⟩, ?_, rfl, ?_⟩
  · refine RDs.cons ?_ RDs.nil
    unfold RD
    refine ⟨a, ns.map V.int, rfl, ?_, ?_⟩
    · rcases hS with h | h
      · exact .inl ⟨by simp, by simp, h⟩
      · exact .inr h
    · clear hl hS
      induction ns with
      | nil => exact RDs.nil
      | cons n ns ih => exact RDs.cons (RDi n) ih
  · rw [hl]
    intro m' H' g r v rv
    unfold RD at rv
    exact rv
theorem walk_Z {l : PySem.W.OpenLaw} {k : Nat} {q : Program} {loose : List Str} {XP : (Str → Option Value) → Heap → Prop} {YP : World → Heap → Prop} {d : DefRec} {K : Params → PySem.W.Frag} {F : PySem.W.Frag → List D → Sto → R D}
    (hn : l.most = some 63) (hdf : d.params.defaults = []) (hr : Room k callerA) (hY : ∀ (w : World) (h : Heap), YP w h → (K w.params).In h)
    (hF : ∀ (w : World) (mg : Str → Option Value) (fa : Addr) (h : Heap), (K w.params).In h → h.Ns mainGlobals mg → mg d.name = some (.ref fa) →
      ∃ fd : FuncData, (∀ (s : Shared) (u : Value), BindsTo s fd ⟨[u], []⟩ [("script", u)]) ∧ ∀ base : Heap, (K w.params).In base → base.Ns mainGlobals mg → FnOk l.prog w (K w.params) mg base (L2.CX l.prog w) k fa fd ["script"] (spI (K w.params) 1 (F (K w.params))))
    (hl : ∀ (K : PySem.W.Frag) (ns : List Int), ns.length ≤ 63 → ∃ S, F K [.scr (scrD ns)] [] = .ok (.bl true) S) : PySem.W.WalkO q loose XP YP l.row.toRowW d [] (fun f vs => PySem.call f vs) :=
  L2.walk_of (l := l) (n := 63) (k := k) (K := K) (x := "script") (CX := fun w => L2.CX l.prog w) (sp := fun w => spI (K w.params) 1 (F (K w.params))) hn (by decide) hdf hr hY hF (fun w H a ns h1 _ hS => sp_scr _ H a ns hS (hl _ ns h1)) fun w H s e s' h => by
    obtain ⟨_, _, _, _, _, _, _, _, _, _, _, _, h⟩ := h
    exact h
end Z
namespace Z
open PySem L2

/-! ### a list made out of parts -/
section
variable {K : PySem.W.Frag} {m m' B : List Addr} {H H' : Hp} {W : Value → Option Addr → Hp → Prop} {Q : VK}
theorem PostL.ge {r : R (List D)} (h : PostL K m B H W Q r) (g : Ge m H m' H') : PostL K m' B H' W Q r := by
  cases r with
  | ok ds S => exact fun m2 H2 p vs g2 r2 hB h0 h2 rv => h m2 H2 p vs (g.trans g2) r2 hB (g.new_wasN (fun hm => r2.dis p (by obtain ⟨⟨l, e⟩, _⟩ := g2; rw [e]; exact List.mem_append_left _ hm) (List.mem_cons_self ..)) h0) h2 rv
  | exc c d S => exact fun m2 H2 x v g2 r2 e2 d2 => h m2 H2 x v (g.trans g2) r2 e2 d2
  | bad => exact h
theorem PostL.bind {α : Type} {r : R α} {f : α → Sto → R (List D)} (h : PostL K m B H W Q (r.bind f)) : Post K m B H W (fun a S' m' H' => PostL K m' B H' W Q (f a S')) r := by
  cases r with
  | ok a S => exact fun m2 H2 g2 r2 => PostL.ge (show PostL K m B H W Q (f a S) from h) g2
  | exc c d S => exact h
  | bad => exact h
/-- the list is there: a new one -/
theorem PostL.put {ds : List D} {vs : List V} {S : Sto} (h : PostL K m B H W Q (.ok ds S)) (rs : RS K m B H S) (rv : RDs K m B H ds vs) {p : Addr} (hp : H p = none) : Q (.ref p) (upd H p (.lst vs)) :=
  h m _ p vs (rs.new hp).1 (rs.ban hp) (rs.notB hp) (nw_none hp) upd_same (RDs.mono (Tr.ban hp) _ _ rv)
end
theorem tE.takeL {W : WX} {K : PySem.W.Frag} {da : DE} {f : D → Sto → R (List D)} {σ : L2.St} {H : Hp} {Q Q' : VK} {m B : List Addr} {ρ : Env} {S : Sto} (r : RS K m B H S) (e : REs K m B H ρ σ) (h : PostL K m B H (fun c x H' => W c x σ H') Q ((da ρ S).bind f))
    (k : ∀ d S1 m1 H1 v, Ge m H m1 H1 → RS K m1 B H1 S1 → REs K m1 B H1 ρ σ → RD K m1 B H1 d v → PostL K m1 B H1 (fun c x H' => W c x σ H') Q (f d S1) → Q' v H1) : tE W K da σ H Q' :=
  ⟨m, B, ρ, S, r, e, (PostL.bind h).imp fun d S1 m1 H1 g1 r1 p v rv => k d S1 m1 H1 v g1 r1 (e.mono g1.tr) rv p⟩
theorem tAr.takeL {W : WX} {K : PySem.W.Frag} {da : DA} {f : List D → Sto → R (List D)} {σ : L2.St} {H : Hp} {Q : VK} {Q' : List V → Hp → Prop} {m B : List Addr} {ρ : Env} {S : Sto} (r : RS K m B H S) (e : REs K m B H ρ σ) (h : PostL K m B H (fun c x H' => W c x σ H') Q ((da ρ S).bind f))
    (k : ∀ d S1 m1 H1 v, Ge m H m1 H1 → RS K m1 B H1 S1 → REs K m1 B H1 ρ σ → RDs K m1 B H1 d v → PostL K m1 B H1 (fun c x H' => W c x σ H') Q (f d S1) → Q' v H1) : tAr W K da σ H Q' :=
  ⟨m, B, ρ, S, r, e, (PostL.bind h).imp fun d S1 m1 H1 g1 r1 p v rv => k d S1 m1 H1 v g1 r1 (e.mono g1.tr) rv p⟩
/-- a list that stands in the heap itself -/
def lstH (S : Sto) : D → Option (List D)
  | .lst ds => some ds
  | .ref n => match S[n]? with
    | some (.lst ds) => some ds
    | _ => none
  | _ => none
theorem lstH_ok {K : PySem.W.Frag} {m B : List Addr} {H : Hp} {S : Sto} (rs : RS K m B H S) {d : D} {v : V} {ds : List D} (rd : RD K m B H d v) (h : lstH S d = some ds) : ∃ a vs, v = .ref a ∧ H a = some (.lst vs) ∧ RDs K m B H ds vs := by
  cases d with
  | lst xs =>
    unfold RD at rd
    obtain ⟨a, vs, rfl, f, r⟩ := rd
    cases h
    exact ⟨a, vs, rfl, f.2.2, r⟩
  | ref n =>
    unfold RD at rd
    obtain ⟨a, rfl, q⟩ := rd
    simp only [lstH] at h
    split at h
    · rename_i xs hn
      cases h
      obtain ⟨vs, ea, rv⟩ := rs.ob n a _ q hn
      exact ⟨a, vs, rfl, ea, rv⟩
    · cases h
  | _ => cases h
def gCat (S : Sto) (x y : D) : R (List D) := match lstH S x, lstH S y with
  | some xs, some ys => if xs.length + ys.length ≤ 16777216 then .ok (xs ++ ys) S else .bad
  | _, _ => .bad
def lCat (a b : DE) : DA := fun ρ S => (a ρ S).bind fun x S1 => (b ρ S1).bind fun y S2 => gCat S2 x y
section
variable {X : Cx} {pos p0 apos : Pos} {a b e o i : Expr} {da db de dobj di : DE} {t : DA}
theorem zl_cat (ha : ZE X a da) (hb : ZE X b db) : ZL X (.BinOp a .Add b pos) (lCat da db) := fun W tk => pe_weak (pe_op op_cat (ha W tk) (hb W tk)) fun σ H Q ⟨m, B, ρ, S, rs, e, p⟩ =>
  tE.takeL rs e p fun x S1 m1 H1 v g1 r1 e1 rx p1 => tE.takeL r1 e1 p1 fun y S2 m2 H2 u g2 r2 e2 ry p2 => by
    unfold gCat at p2
    split at p2
    · rename_i xs ys h1 h2
      split at p2
      · rename_i hl
        obtain ⟨a1, vs, rfl, q1, w1⟩ := lstH_ok r2 (rx.mono g2.tr) h1
        obtain ⟨a2, us, rfl, q2, w2⟩ := lstH_ok r2 ry h2
        exact ⟨a1, a2, vs, us, rfl, rfl, q1, q2, by rw [← w1.len, ← w2.len, sizeLine_eq]; exact hl, fun p hp => p2.put r2 (w1.app w2) hp⟩
      · exact p2.elim
    · exact p2.elim

/-! ### a tuple so many times -/
def fRepT : D → D → Sto → R D
  | .tup ds, .int k, S => if ds ≠ [] ∧ 2 ≤ k ∧ k ≤ 1000 ∧ ds.length ≤ 1000 then .ok (.tup (List.replicate k.toNat ds).flatten) S else .bad
  | _, _, _ => .bad
theorem RDs.rep {K : PySem.W.Frag} {m B : List Addr} {H : Hp} {ds : List D} {vs : List V} (h : RDs K m B H ds vs) : ∀ n, RDs K m B H (List.replicate n ds).flatten (List.replicate n vs).flatten
  | 0 => RDs.nil
  | n + 1 => by
    rw [List.replicate_succ, List.replicate_succ, List.flatten_cons, List.flatten_cons]
    exact h.app (h.rep n)
theorem okRepT {K : PySem.W.Frag} : OkOp K (rRepT K) fRepT := by
  intro m B H S d e x y W Q rs rd re p
  cases d with
  | tup ds =>
    cases e with
    | int k =>
      unfold RD at rd re
      obtain ⟨a, vs, rfl, f, r⟩ := rd
      subst re
      simp only [fRepT] at p
      split at p
      · rename_i h
        refine ⟨a, k, vs, rfl, rfl, f.sq, fun e0 => h.1 (List.length_eq_zero_iff.mp (by rw [r.len, e0]; rfl)), h.2.1, h.2.2.1, by rw [← r.len]; exact h.2.2.2, fun q hq => ?_⟩
        obtain ⟨g2, r2⟩ := rs.new (u := .tup (List.replicate k.toNat vs).flatten) hq
        refine p m _ g2 r2 _ ?_
        unfold RD
        exact ⟨q, _, rfl, .inl ⟨rs.notin hq, rs.notB hq, .inl upd_same⟩, RDs.mono g2.tr _ _ (r.rep _)⟩
      · exact p.elim
    | _ => exact p.elim
  | _ => cases e <;> exact p.elim
theorem ze_repT (ha : ZE X a da) (hb : ZE X b db) : ZE X (.BinOp a .Mult b pos) (e2 fRepT da db) := ze_op op_repT okRepT ha hb

/-! ### a < b: numbers, tuples of numbers -/
def intsD : List D → Option (List Int)
  | [] => some []
  | .int i :: r => (intsD r).map fun l => i :: l
  | _ :: _ => none
theorem intsD_ok {K : PySem.W.Frag} {m B : List Addr} {H : Hp} : ∀ {ds : List D} {vs : List V} {ns : List Int}, RDs K m B H ds vs → intsD ds = some ns → vs = ns.map V.int
  | [], _, _, h, e => by unfold RDs at h; simp only [intsD] at e; cases e; exact h
  | d :: ds, _, _, h, e => by
    unfold RDs at h
    obtain ⟨x, r, rfl, h1, h2⟩ := h
    cases d with
    | int b =>
      unfold RD at h1
      subst h1
      simp only [intsD, Option.map_eq_some_iff] at e
      obtain ⟨bs, e1, rfl⟩ := e
      rw [intsD_ok h2 e1]
      rfl
    | _ => simp only [intsD] at e; cases e
def fLtA : D → D → Sto → R D
  | .int i, .int j, S => .ok (.bl (decide (i < j))) S
  | .tup xs, .tup ys, S => match intsD xs, intsD ys with
    | some ns, some ks => .ok (.bl (HT.lexLt ns ks)) S
    | _, _ => .bad
  | _, _, _ => .bad
def rLtA (K : PySem.W.Frag) : R2 := fun x y H Q => rI0 (fun i j => .bl (decide (i < j))) x y H Q ∨ rLtT K x y H Q
theorem okLtA {K : PySem.W.Frag} : OkOp K (rLtA K) fLtA := by
  intro m B H S d e x y W Q rs rd re p
  cases d with
  | int i =>
    cases e with
    | int j => unfold RD at rd re; subst rd re; exact .inl ⟨i, j, rfl, rfl, p.now rs _ (RDb _)⟩
    | _ => exact p.elim
  | tup xs =>
    cases e with
    | tup ys =>
      unfold RD at rd re
      obtain ⟨a, vs, rfl, f, r⟩ := rd
      obtain ⟨b, us, rfl, f2, r2⟩ := re
      simp only [fLtA] at p
      split at p
      · rename_i ns ks h1 h2
        have e1 := intsD_ok r h1
        have e2 := intsD_ok r2 h2
        subst e1 e2
        exact .inr ⟨a, b, ns, ks, rfl, rfl, f.sq, f2.sq, p.now rs _ (RDb _)⟩
      · exact p.elim
    | _ => exact p.elim
  | _ => cases e <;> exact p.elim
theorem op_ltA (hu : X.A.units < cLine) : OpR X (compareOp .Lt) (rLtA X.K) := op_lt.or (op_ltT hu)
theorem ze_ltA (hu : X.A.units < cLine) (ha : ZE X a da) (hb : ZE X b db) : ZE X (.Compare a [.Lt] [b] pos) (e2 fLtA da db) := ze_cmp (op_ltA hu) okLtA ha hb (nomark _)
theorem zt_ltA (hu : X.A.units < cLine) (ha : ZE X a da) (hb : ZE X b db) : ZT X (.Compare a [.Lt] [b] pos) (tVB (e2 fLtA da db)) := zt_cmp (op_ltA hu) okLtA ha hb (nomark _)
/-! ### name += number -/
def sAug (n : Nat) (a : DE) : DS := fun ρ S => match ρ[n]? with
  | some (some (.int i)) => (a ρ S).to ρ fun y S1 => match y with
    | .int j => .nx (ρ.set n (some (.int (i + j)))) S1
    | _ => .bad
  | _ => .bad
theorem zs_aug {n : Nat} {x : Str} {p1 : Pos} (hN : X.N.Nodup) (ha : ZE X a da) (hi : X.N[n]? = some x := by rfl) (hx : Loc X.env.scope x := by first | exact .inl rfl | exact .inr rfl) (hf : X.fn x = true ∨ X.env.scope.names.lookup x = some .local := by first | exact .inl rfl | exact .inr rfl | assumption) :
    ZS X (.AugAssign (.Name x p1) .Add a pos) (sAug n da) := fun W tk => ps_weak (ps_aug hN hi hx (ha W tk) ip_add hf) fun E σ H ⟨m, B, ρ, S, rs, e, p⟩ => by
  unfold sAug at p
  split at p
  · rename_i k hk
    obtain ⟨v, h1, rv⟩ := e.getE hk
    unfold RD at rv
    subst rv
    refine ⟨_, h1, tE.takeS rs e p fun d S1 m1 H1 u g1 r1 e1 rd p1 => ?_⟩
    cases d <;> try exact p1.elim
    rename_i j
    unfold RD at rd
    subst rd
    exact ⟨k, j, rfl, rfl, p1 m1 H1 _ (.refl _ _) r1 (e1.set n (RDi _))⟩
  · exact p.elim

/-! ### xs.extend(ys) -/
def fExt : D → List D → Sto → R D
  | .ref n, [y], S => match S[n]?, lstH S y with
    | some (.lst ds), some es => if ds.length + es.length ≤ 16777216 then .ok .non (S.set n (.lst (ds ++ es))) else .bad
    | _, _ => .bad
  | _, _, _ => .bad
theorem okExt {K : PySem.W.Frag} : OkM K rExtend fExt := by
  intro m B H S d ds x vs W Q rs rd rds p
  cases d <;> try exact p.elim
  rename_i n
  match ds, rds, p with
  | [], _, p => exact p.elim
  | _ :: _ :: _, _, p => exact p.elim
  | [y], rds, p =>
    obtain ⟨w, rfl, rw'⟩ := rds.one
    unfold RD at rd
    obtain ⟨a, rfl, hq⟩ := rd
    simp only [fExt] at p
    split at p
    · rename_i ds es hn hy
      split at p
      · rename_i hz
        obtain ⟨us, hv, rv⟩ := rs.ob n a _ hq hn
        obtain ⟨b, ws, rfl, hb, rb⟩ := lstH_ok rs rw' hy
        refine ⟨a, b, us, ws, rfl, rfl, hv, hb, by rw [← rv.len, ← rb.len, sizeLine_eq]; exact hz, ?_⟩
        obtain ⟨g4, r4⟩ := rs.put (u := .lst (us ++ ws)) (o := .lst (ds ++ es)) hq fun H' g h' => ⟨_, h', RDs.mono g.tr _ _ (rv.app rb)⟩
        exact p m _ g4 r4 _ RDn
      · exact p.elim
    · exact p.elim
theorem ze_ext (ho : ZE X o dobj) (ha : ZA X [e] t) (hb : attributeBase o "extend" X.env (eval o X.env) = eval o X.env := by rfl)
    (hfew : ((backTo pos (starEach [e] X.env)).all (fun x => !x.1) && (backToKw pos (keywordEach [] X.env)).all (fun x => x.1.isSome) && decide ([e].length + ([] : List Keyword).length + (if ([] : List Keyword).isEmpty then 0 else 1) < 30)) = true := by rfl)
    (hl : (apos.endLine == pos.line) = true := by rfl) (hs : starEach [e] X.env = (false, eval e X.env) :: starEach [] X.env := by rfl) : ZE X (.Call (.Attribute o "extend" apos) [e] [] pos) (eBM fExt dobj t) :=
  ze_bm PySem.F.slot_list_extend PySem.F.type_list_extend mt_extend okExt ho ha hb hfew hl hs

/-! ### list(x): a new list -/
def keyD : Key → D
  | .inl i => .int i
  | .inr s => .str s
def listD (S : Sto) : D → Option (List D)
  | .ref n => match S[n]? with
    | some (.lst ds) => some ds
    | some (.dct kvs) => some (kvs.map fun kv => keyD kv.1)
    | _ => none
  | d => seqOf S d
def gList (S : Sto) : List D → R (List D)
  | [d] => match listD S d with
    | some ds => .ok ds S
    | none => .bad
  | _ => .bad
def lList (a : DA) : DA := fun ρ S => (a ρ S).bind fun ds S1 => gList S1 ds
theorem keyD_rd {K : PySem.W.Frag} {m B : List Addr} {H : Hp} (k : Key) : RD K m B H (keyD k) (kV k) := by
  cases k with
  | inl i => exact RDi i
  | inr s => exact RDst s
theorem keys_rd {K : PySem.W.Frag} {m B : List Addr} {H : Hp} : ∀ {kvs : List (Key × D)} {vs : List (Key × V)}, RFs K m B H kvs vs → RDs K m B H (kvs.map fun kv => keyD kv.1) (vs.map fun kv => kV kv.1)
  | [], _, h => by
    have h' : _ = _ := h
    rw [h']
    exact RDs.nil
  | p :: fs, _, ⟨x, r, e, h1, h2⟩ => by
    subst e
    exact RDs.cons (keyD_rd _) (keys_rd h2)
def rListA (K : PySem.W.Frag) : List V → Hp → VK → Prop := fun xs H Q => (∃ p ys, xs = [.ref p] ∧ (SqL K H p ys ∨ SqT K H p ys) ∧ ∀ l, H l = none → Q (.ref l) (upd H l (.lst ys))) ∨ (∃ (a : Addr) (kvs : List (Key × V)), xs = [.ref a] ∧ Rd H a (.dK kvs) ∧ ∀ p, H p = none → Q (.ref p) (upd H p (.lst (kvs.map fun kv => kV kv.1))))
theorem cr_listA (hc : X.calm = true) : CallR X (.type "list") (rListA X.K) := call_list_of.or (call_listD hc)
theorem zl_list (hc : X.calm = true) (hm : X.mg "list" = none) (ha : ZA X [e] t) (hg : Gl X "list" := by rfl) (he : starEach [e] X.env = (false, eval e X.env) :: starEach [] X.env := by rfl) : ZL X (.Call (.Name "list" p0) [e] [] pos) (lList t) := fun W tk =>
  pe_weak (pe_callTy (cr_listA hc) hg hm (by decide +kernel) (ha W tk) (by decide) (by decide) he (by rfl)) fun σ H Q ⟨m, B, ρ, S, rs, e, p⟩ => tAr.takeL rs e p fun ds S1 m1 H1 vs g1 r1 e1 rds p1 => by
    match ds, rds, p1 with
    | [], _, p1 => exact p1.elim
    | _ :: _ :: _, _, p1 => exact p1.elim
    | [d], rds, p1 =>
      obtain ⟨v, rfl, rv⟩ := rds.one
      simp only [gList] at p1
      split at p1
      · rename_i ds hd
        by_cases hs : ∃ es, seqOf S1 d = some es ∧ es = ds
        · obtain ⟨es, h1, rfl⟩ := hs
          obtain ⟨a, us, rfl, sq, r⟩ := seqOf_ok r1 rv h1
          exact .inl ⟨a, us, rfl, sq, fun p hp => p1.put r1 r hp⟩
        · cases d with
          | ref n =>
            simp only [listD] at hd
            split at hd
            · rename_i es hn
              cases hd
              exact absurd ⟨ds, by simp only [seqOf, hn], rfl⟩ hs
            · rename_i kvs hn
              cases hd
              unfold RD at rv
              obtain ⟨a, rfl, q⟩ := rv
              obtain ⟨us, ea, ru⟩ := r1.ob n a _ q hn
              exact .inr ⟨a, us, rfl, .inl ea, fun p hp => p1.put r1 (keys_rd ru) hp⟩
            · cases hd
          | _ => exact absurd ⟨_, hd, rfl⟩ hs
      · exact p1.elim

/-! ### max(xs), whole numbers -/
def maxI : Int → List Int → Int
  | m, [] => m
  | m, x :: r => maxI (if x > m then x else m) r
theorem maxI_ge : ∀ (l : List Int) (m : Int), m ≤ maxI m l ∧ ∀ x ∈ l, x ≤ maxI m l
  | [], m => ⟨Int.le_refl _, fun x h => absurd h (by simp)⟩
  | y :: l, m => by
    have ih := maxI_ge l (if y > m then y else m)
    have k : m ≤ (if y > m then y else m) ∧ y ≤ (if y > m then y else m) := by split <;> omega
    unfold maxI
    refine ⟨Int.le_trans k.1 ih.1, fun x h => ?_⟩
    rcases List.mem_cons.mp h with rfl | h
    · exact Int.le_trans k.2 ih.1
    · exact ih.2 x h
theorem maxI_mem : ∀ (l : List Int) (m : Int), maxI m l = m ∨ maxI m l ∈ l
  | [], m => .inl rfl
  | y :: l, m => by
    unfold maxI
    rcases maxI_mem l (if y > m then y else m) with h | h
    · by_cases hy : y > m
      · rw [if_pos hy] at h ⊢
        exact .inr (by rw [h]; exact List.mem_cons_self ..)
      · rw [if_neg hy] at h ⊢
        exact .inl h
    · exact .inr (List.mem_cons_of_mem _ h)
def fMax : List D → Sto → R D
  | [d], S => match (lstOf S d).bind intsD with
    | some (x :: r) => .ok (.int (maxI x r)) S
    | _ => .bad
  | _, _ => .bad
theorem okMax {K : PySem.W.Frag} : OkCall K (rMax K) fMax := by
  intro m B H S ds vs W Q rs rds p
  match ds with
  | [] => exact p.elim
  | d :: e :: r => exact p.elim
  | [d] =>
    obtain ⟨v, rfl, rv⟩ := rds.one
    simp only [fMax] at p
    split at p
    · rename_i x l h
      obtain ⟨ds, h1, h2⟩ := Option.bind_eq_some_iff.mp h
      obtain ⟨a, vs, rfl, sq, r⟩ := lstOf_ok rs rv h1
      rw [intsD_ok r h2] at sq
      refine ⟨a, x :: l, rfl, sq, by simp, fun k hk hge => ?_⟩
      have e : k = maxI x l := by
        have h3 := (maxI_ge l x)
        have h4 : maxI x l ≤ k := hge _ (by rcases maxI_mem l x with q | q; · rw [q]; exact List.mem_cons_self ..
                                            · exact List.mem_cons_of_mem _ q)
        rcases List.mem_cons.mp hk with rfl | hk
        · omega
        · have := h3.2 k hk
          omega
      rw [e]
      exact p.now rs _ (RDi _)
    · exact p.elim
theorem ze_max (hc : X.calm = true) (hm : X.mg "max" = none) (ha : ZA X [e] t) (hg : Gl X "max" := by rfl) (he : starEach [e] X.env = (false, eval e X.env) :: starEach [] X.env := by rfl) : ZE X (.Call (.Name "max" p0) [e] [] pos) (eCall fMax t) := ze_callB (cr_max hc) okMax hm ha hg (he := he)
end
end Z
namespace Z
open PySem PySem.Spec PyProof.Rows L2

/-! ### a set out of a list of whole numbers -/
/-- the empty set, as it is made -/
abbrev set0 (w : World) : Obj := ⟨.type "set", none, .set #[] 0 (.fresh 0 0 (!w.params.followText "set-order")), #[]⟩
section
variable {P : Program} {w : World} {A : Around} {E : Value → Shared → Prop} {s : Shared}
/-- what the set at S is to be, made of ns; else the heap grows -/
def SetBy (w : World) (s : Shared) (ns : List Int) (s' : Shared) : Prop :=
  ∃ h' tk c, s' = { s with heap := h', toks := tk } ∧ SetR w h' s.heap.objs.size (fun j => decide (j ∈ ns)) c ∧ c ≤ ns.length ∧ ∀ b o, s.heap.get? b = some o → h'.get? b = some o
theorem set_fill {l : Addr} {us : Array Value} {ns : List Int} (hh : A.handled = none) (hl : s.heap.IsList l us) (hit : IntsAre us.toList ns) (hb : ns.length + 1 < scanBound) :
    codeAny (model P w) A (.call (.builtin "set.__init__") ⟨[.ref s.heap.objs.size, .ref l], []⟩) (wants (fun r s₂ => r = .none ∧ SetBy w s ns s₂) E) { s with heap := s.heap.push (set0 w) } := by
  have nn : us.size = ns.length := by
    have z := IntsAre.length hit
    rw [Array.length_toList] at z
    exact z
  have own : (s.heap.push (set0 w)).get? s.heap.objs.size = some (set0 w) := Heap.get?_push_size _ rfl
  have ty : Shared.TypeIs { s with heap := s.heap.push (set0 w) } (.ref s.heap.objs.size) "set" := ⟨_, own, rfl⟩
  refine codeAny_call_builtin F.called_set.init.plain F.entry_set_init (check_set_init_1 ty ?_)
  obtain ⟨ob, g0, c0, k0, d0⟩ := hl
  obtain ⟨oc, od, odt, os⟩ := ob
  simp only at c0 d0
  subst c0 d0
  have g1 : (s.heap.push (set0 w)).get? l = some ⟨.type "list", od, .seq us k0, os⟩ := Heap.get?_push_of_some _ g0
  have ls : (s.heap.push (set0 w)).IsList l us := ⟨_, g1, rfl, k0, rfl⟩
  have n1 := F.sub_list_set
  have n2 := F.sub_list_frozenset
  have n3 : (Value.type "list" == Value.type "dict") = false := by decide
  unfold Builtin.«set.__init__» noKeywords Builtin.Frozenset.updateFrom
  generalize hIt : pyIter = It
  wp_walk
  subst hIt
  have lt : l < s.heap.objs.size := Heap.lt_size g0
  have sz : (s.heap.push (set0 w)).objs.size = s.heap.objs.size + 1 := Heap.size_push ..
  have far : l ≠ (s.heap.push (set0 w)).objs.size := by rw [sz]; exact Nat.ne_of_lt (Nat.lt_succ_of_lt lt)
  have out : s.heap.objs.size ∉ [(s.heap.push (set0 w)).objs.size, l] := by
    rw [sz]
    simp only [List.mem_cons, List.not_mem_nil, or_false, not_or]
    exact ⟨Nat.ne_of_lt (Nat.lt_succ_self _), Nat.ne_of_gt lt⟩
  have each : ∀ (i : Nat) (v : Value), us[i]? = some v → ∃ k t, ns[i]? = some k ∧ v = .int k t := fun i v hv => by
    have hi : i < ns.length := nn ▸ (Array.getElem?_eq_some_iff.mp hv).1
    obtain ⟨t, e⟩ := IntsAre.int_at hit i v (by rw [Array.getElem?_toList]; exact hv)
    exact ⟨ns[i], t, List.getElem?_eq_getElem hi, by rw [e, List.getD_eq_getElem?_getD, List.getElem?_eq_getElem hi]; rfl⟩
  refine wpAny_pyIter_list ls (wpAny_bind (wpAny_runValue ?_))
  have h3 : A.in1.in1.handled = none := by simp [hh]
  refine set_update_ints ((Walks.list h3 _ l far us).toS) s.heap.objs.size out ns nn hb each (us.size - 0) 0 _ (by omega) (Nat.zero_le _) ?_ ⟨0, Nat.le_refl 0, ?_⟩ fun s' c' hm hc' hS' => ?_
  · exact ⟨⟨_, Heap.get?_push_size _ rfl, rfl, rfl⟩, (ls.push _)⟩
  · exact setR_new_at (Heap.get?_push_of_some _ own)
  obtain ⟨h', g2, d', tk', os'⟩ := s'
  have eg : g2 = s.gens := hm.gens
  have ed : d' = s.drawn := hm.drawn
  have eo : os' = s.os := hm.os
  subst eg ed eo
  show wpAny _ _ _ _ _ _
  refine wpAny_pure ?_
  show wpAny _ _ (ret Value.none) _ _ _
  refine wpAny_pure ⟨rfl, h', tk', c', rfl, hS', nn ▸ hc', fun b o e => hm.heap b o ?_ (Heap.get?_push_of_some _ (Heap.get?_push_of_some _ e))⟩
  have lb : b < s.heap.objs.size := Heap.lt_size e
  rw [sz]
  simp only [List.mem_cons, List.not_mem_nil, or_false, not_or]
  exact ⟨Nat.ne_of_lt lb, Nat.ne_of_lt (Nat.lt_succ_of_lt lb)⟩
theorem set_ofInts {l : Addr} {us : Array Value} {ns : List Int} {Q : Value → Shared → Prop} (hh : A.handled = none) (hl : s.heap.IsList l us) (hit : IntsAre us.toList ns) (hb : ns.length + 1 < scanBound)
    (h : ∀ s', SetBy w s ns s' → Q (.ref s.heap.objs.size) s') : wpAny (model P w) A (call (.type "set") [.ref l]) Q E s := by
  obtain ⟨c, tl, hmro⟩ := F.called_set.mro
  have made := F.called_set.made
  have sub := F.called_set.sub
  have f1 := F.called_set.notType
  have f2 := F.called_set.canCreate
  have f3 := F.typeCall_set_1 (.ref l)
  refine wpAny_call (codeAny_of_tree (show wpAny _ _ (callAny (.type "set") _) _ _ _ from wpAny_pure ⟨Code.quiet_builtin _ (by decide +kernel), codeAny_builtin F.entry_type_call ?_⟩))
  rw [Around.under_plain (weight_type_call_type "set" [.ref l] []) rfl]
  repeat (any_goals (first | assumption | wp_step))
  refine codeAny_mono (code_set_led1 (.ref l) (E := E) (Q₁ := fun obj s₁ => obj = .ref s.heap.objs.size ∧ s₁ = { s with heap := s.heap.push (set0 w) }) ⟨rfl, rfl⟩) fun r s₁ hr => ?_
  match r, hr with
  | .error e, hr => exact hr
  | .ok .next, hr => exact hr.elim
  | .ok .brk, hr => exact hr.elim
  | .ok .cont, hr => exact hr.elim
  | .ok (.ret obj), hr =>
    obtain ⟨rfl, rfl⟩ := hr
    have own : (s.heap.push (set0 w)).get? s.heap.objs.size = some (set0 w) := Heap.get?_push_size _ rfl
    have ty : Shared.TypeIs { s with heap := s.heap.push (set0 w) } (.ref s.heap.objs.size) "set" := ⟨_, own, rfl⟩
    have i1 := F.called_set.init.lookup
    have i2 := F.called_set.init.bind (.ref s.heap.objs.size)
    repeat (any_goals (first | assumption | wp_step))
    refine codeAny_mono (set_fill (E := E) (by simpa using hh) hl hit hb) fun r₂ s₂ hr₂ => ?_
    match r₂, hr₂ with
    | .error e, hr₂ => exact hr₂
    | .ok .next, hr₂ => exact hr₂.elim
    | .ok .brk, hr₂ => exact hr₂.elim
    | .ok .cont, hr₂ => exact hr₂.elim
    | .ok (.ret r), hr₂ =>
      obtain ⟨rfl, hx⟩ := hr₂
      repeat (any_goals (first | assumption | wp_step))
      exact h _ hx
end
end Z
namespace Z
open PySem L2

/-! ### sorted by a key -/
section
variable {α : Type}
def insK (key : α → Int) (x : α) : List α → List α
  | [] => [x]
  | y :: r => if key x ≤ key y then x :: y :: r else y :: insK key x r
def sortK (key : α → Int) : List α → List α
  | [] => []
  | x :: r => insK key x (sortK key r)
theorem insK_perm (key : α → Int) (x : α) : ∀ l, (insK key x l).Perm (x :: l)
  | [] => .refl _
  | y :: r => by
    unfold insK
    split
    · exact .refl _
    · exact ((insK_perm key x r).cons y).trans (.swap x y r)
theorem sortK_perm (key : α → Int) : ∀ l, (sortK key l).Perm l
  | [] => .refl _
  | x :: r => (insK_perm key x _).trans ((sortK_perm key r).cons x)
theorem insK_pw (key : α → Int) (x : α) : ∀ l, l.Pairwise (fun x y => key x ≤ key y) → (insK key x l).Pairwise fun x y => key x ≤ key y
  | [], _ => List.pairwise_singleton ..
  | y :: r, h => by
    unfold insK
    obtain ⟨h1, h2⟩ := List.pairwise_cons.mp h
    split
    · rename_i hx
      exact List.pairwise_cons.mpr ⟨fun z hz => by
        rcases List.mem_cons.mp hz with rfl | hz
        · exact hx
        · exact Int.le_trans hx (h1 z hz), h⟩
    · rename_i hx
      refine List.pairwise_cons.mpr ⟨fun z hz => ?_, insK_pw key x r h2⟩
      rcases List.mem_cons.mp ((insK_perm key x r).mem_iff.mp hz) with rfl | hz
      · omega
      · exact h1 z hz
theorem sortK_pw (key : α → Int) : ∀ l, (sortK key l).Pairwise fun x y => key x ≤ key y
  | [] => .nil
  | x :: r => insK_pw key x _ (sortK_pw key r)
theorem sortK_uniq {key : α → Int} {l m : List α} (hp : m.Perm l) (hs : m.Pairwise fun x y => key x ≤ key y) (hi : ∀ x ∈ l, ∀ y ∈ l, key x = key y → x = y) : m = sortK key l :=
  List.Perm.eq_of_pairwise (fun a b ha hb h1 h2 => hi a (hp.mem_iff.mp ha) b ((sortK_perm key l).mem_iff.mp hb) (Int.le_antisymm h1 h2)) hs (sortK_pw key l) (hp.trans (sortK_perm key l).symm)
/-- each once -/
def insU (key : α → Int) (x : α) : List α → List α
  | [] => [x]
  | y :: r => if key x < key y then x :: y :: r else if key x = key y then y :: r else y :: insU key x r
def usortK (key : α → Int) : List α → List α
  | [] => []
  | x :: r => insU key x (usortK key r)
theorem insU_mem {key : α → Int} {x : α} : ∀ {l : List α}, (∀ y ∈ l, key x = key y → x = y) → ∀ z, z ∈ insU key x l ↔ z = x ∨ z ∈ l
  | [], _, z => by simp [insU]
  | y :: r, h, z => by
    unfold insU
    split
    · simp
    · split
      · rename_i he
        have := h y (List.mem_cons_self ..) he
        subst this
        simp
      · have ih := insU_mem (key := key) (x := x) (l := r) (fun w hw => h w (List.mem_cons_of_mem _ hw)) z
        rw [List.mem_cons, ih, List.mem_cons]
        constructor
        · rintro (h | h | h)
          · exact .inr (.inl h)
          · exact .inl h
          · exact .inr (.inr h)
        · rintro (h | h | h)
          · exact .inr (.inl h)
          · exact .inl h
          · exact .inr (.inr h)
theorem usortK_mem {key : α → Int} : ∀ {l : List α}, (∀ x ∈ l, ∀ y ∈ l, key x = key y → x = y) → ∀ z, z ∈ usortK key l ↔ z ∈ l
  | [], _, z => by simp [usortK]
  | x :: r, h, z => by
    have ih := usortK_mem (key := key) (l := r) fun a ha b hb => h a (List.mem_cons_of_mem _ ha) b (List.mem_cons_of_mem _ hb)
    unfold usortK
    rw [insU_mem (fun y hy => h x (List.mem_cons_self ..) y (List.mem_cons_of_mem _ ((ih y).mp hy))), ih, List.mem_cons]
theorem insU_sub {key : α → Int} {x : α} : ∀ {l : List α} {z}, z ∈ insU key x l → z = x ∨ z ∈ l
  | [], z, h => by simp [insU] at h; exact .inl h
  | y :: r, z, h => by
    unfold insU at h
    split at h
    · exact List.mem_cons.mp h
    · split at h
      · exact .inr h
      · rcases List.mem_cons.mp h with h | h
        · exact .inr (h ▸ List.mem_cons_self ..)
        · exact (insU_sub h).imp id (List.mem_cons_of_mem _)
theorem insU_pw (key : α → Int) (x : α) : ∀ l, l.Pairwise (fun x y => key x < key y) → (insU key x l).Pairwise fun x y => key x < key y
  | [], _ => List.pairwise_singleton ..
  | y :: r, h => by
    unfold insU
    obtain ⟨h1, h2⟩ := List.pairwise_cons.mp h
    split
    · rename_i hx
      exact List.pairwise_cons.mpr ⟨fun z hz => by
        rcases List.mem_cons.mp hz with rfl | hz
        · exact hx
        · exact Int.lt_trans hx (h1 z hz), h⟩
    · split
      · exact h
      · rename_i hx hy
        refine List.pairwise_cons.mpr ⟨fun z hz => ?_, insU_pw key x r h2⟩
        rcases insU_sub hz with rfl | hz
        · omega
        · exact h1 z hz
theorem usortK_pw (key : α → Int) : ∀ l, (usortK key l).Pairwise fun x y => key x < key y
  | [] => .nil
  | x :: r => insU_pw key x _ (usortK_pw key r)
theorem usortK_uniq {key : α → Int} {l m : List α} (hm : ∀ z, z ∈ m ↔ z ∈ l) (hs : m.Pairwise fun x y => key x < key y) (hi : ∀ x ∈ l, ∀ y ∈ l, key x = key y → x = y) : m = usortK key l := by
  have pw := usortK_pw key l
  have nd : ∀ {k : List α}, k.Pairwise (fun x y => key x < key y) → k.Nodup := fun h => h.imp fun q e => by subst e; exact absurd q (Int.lt_irrefl _)
  refine List.Perm.eq_of_pairwise (le := fun x y => key x < key y) (fun a b ha hb h1 h2 => absurd h1 (by omega)) hs pw ?_
  exact (List.perm_ext_iff_of_nodup (nd hs) (nd pw)).mpr fun z => (hm z).trans (usortK_mem hi z).symm
end

/-! ### whole numbers, tuples of them -/
def tupI : D → Option (List Int)
  | .tup xs => intsD xs
  | _ => none
def keyT : D → Int
  | .int i => i
  | .tup xs => match intsD xs with
    | some ns => TS.code 1024 ns
    | none => 0
  | _ => 0
def bdB (ns : List Int) : Bool := ns.all fun n => decide (0 ≤ n) && decide (n < 1024)
def tupsB (d : Nat) (ds : List D) : Bool := ds.all fun x => match tupI x with
  | some ns => decide (ns.length = d) && bdB ns
  | none => false
def lenT : List D → Nat
  | .tup xs :: _ => xs.length
  | _ => 0
theorem bdB_ok {ns : List Int} (h : bdB ns = true) : TS.Bd 1024 ns := fun k hk => by
  unfold bdB at h
  have := List.all_eq_true.mp h k hk
  simp only [Bool.and_eq_true, decide_eq_true_eq] at this
  exact this
theorem intsD_len : ∀ {ds : List D} {ns : List Int}, intsD ds = some ns → ds = ns.map D.int
  | [], _, h => by simp only [intsD] at h; cases h; rfl
  | d :: ds, _, h => by
    cases d with
    | int i =>
      simp only [intsD, Option.map_eq_some_iff] at h
      obtain ⟨l, h1, rfl⟩ := h
      rw [intsD_len h1]
      rfl
    | _ => simp only [intsD] at h; cases h
theorem tupI_eq {x : D} {ns : List Int} (h : tupI x = some ns) : x = .tup (ns.map D.int) := by
  cases x with
  | tup xs => rw [intsD_len (show intsD xs = some ns from h)]
  | _ => cases h
theorem intsD_map : ∀ ns : List Int, intsD (ns.map D.int) = some ns
  | [] => rfl
  | i :: r => by
    show (intsD (r.map D.int)).map _ = _
    rw [intsD_map r]
    rfl
theorem keyT_tup (ns : List Int) : keyT (.tup (ns.map D.int)) = TS.code 1024 ns := by
  show (match intsD (ns.map D.int) with
    | some ns => TS.code 1024 ns
    | none => 0) = _
  rw [intsD_map]
theorem code_inj {B : Int} : ∀ {r q : List Int}, r.length = q.length → TS.Bd B r → TS.Bd B q → TS.code B r = TS.code B q → r = q
  | [], [], _, _, _, _ => rfl
  | d :: r, e :: q, hl, hr, hq, h => by
    have hl' : r.length = q.length := Nat.succ.inj hl
    rcases Int.lt_trichotomy d e with c | c | c
    · exact absurd h (Int.ne_of_lt (TS.code_lt hl' hr.tail hq.tail c))
    · subst c
      have h' : d * B ^ r.length + TS.code B r = d * B ^ q.length + TS.code B q := h
      rw [hl'] at h'
      rw [code_inj hl' hr.tail hq.tail (by omega)]
    · exact absurd h.symm (Int.ne_of_lt (TS.code_lt hl'.symm hq.tail hr.tail c))
theorem tupsB_at {d : Nat} {ds : List D} (h : tupsB d ds = true) {x : D} (hx : x ∈ ds) : ∃ ns, x = .tup (ns.map D.int) ∧ ns.length = d ∧ TS.Bd 1024 ns := by
  have q := List.all_eq_true.mp h x hx
  split at q
  · rename_i ns hn
    simp only [Bool.and_eq_true, decide_eq_true_eq] at q
    exact ⟨ns, tupI_eq hn, q.1, bdB_ok q.2⟩
  · cases q
theorem tupsB_inj {d : Nat} {ds : List D} (h : tupsB d ds = true) : ∀ x ∈ ds, ∀ y ∈ ds, keyT x = keyT y → x = y := fun x hx y hy e => by
  obtain ⟨n1, rfl, l1, b1⟩ := tupsB_at h hx
  obtain ⟨n2, rfl, l2, b2⟩ := tupsB_at h hy
  rw [keyT_tup, keyT_tup] at e
  rw [code_inj (by omega) b1 b2 e]
theorem keyT_int (i : Int) : keyT (.int i) = i := rfl
theorem ints_inj {ns : List Int} : ∀ x ∈ ns.map D.int, ∀ y ∈ ns.map D.int, keyT x = keyT y → x = y := fun x hx y hy e => by
  obtain ⟨i, _, rfl⟩ := List.mem_map.mp hx
  obtain ⟨j, _, rfl⟩ := List.mem_map.mp hy
  rw [show i = j from e]
def gSort (S : Sto) : List D → R (List D)
  | [x] => match lstOf S x with
    | some ds => if (intsD ds).isSome = true then .ok (sortK keyT ds) S else if ds.length < 64 ∧ 1 ≤ lenT ds ∧ tupsB (lenT ds) ds = true then .ok (sortK keyT ds) S else .bad
    | none => .bad
  | _ => .bad
def lSort (a : DA) : DA := fun ρ S => (a ρ S).bind fun ds S1 => gSort S1 ds
section
variable {K : PySem.W.Frag} {m B : List Addr} {H : Hp}
theorem RDs.perm {vs ys : List V} (p : ys.Perm vs) : ∀ {ds : List D}, RDs K m B H ds vs → ∃ ds', ds'.Perm ds ∧ RDs K m B H ds' ys := by
  induction p with
  | nil => exact fun {ds} h => ⟨ds, .refl _, h⟩
  | cons x p ih =>
    intro ds h
    cases ds with
    | nil => unfold RDs at h; cases h
    | cons d ds =>
      unfold RDs at h
      obtain ⟨y, r, e, h1, h2⟩ := h
      cases e
      obtain ⟨ds', p', h'⟩ := ih h2
      exact ⟨d :: ds', p'.cons d, RDs.cons h1 h'⟩
  | swap x y l =>
    intro ds h
    cases ds with
    | nil => unfold RDs at h; cases h
    | cons d ds =>
      unfold RDs at h
      obtain ⟨y1, r, e, h1, h2⟩ := h
      cases e
      cases ds with
      | nil => unfold RDs at h2; cases h2
      | cons d2 ds =>
        unfold RDs at h2
        obtain ⟨y2, r2, e2, h3, h4⟩ := h2
        cases e2
        exact ⟨d2 :: d :: ds, .swap .., RDs.cons h3 (RDs.cons h1 h4)⟩
  | trans _ _ ih1 ih2 =>
    intro ds h
    obtain ⟨d1, p1, h1⟩ := ih2 h
    obtain ⟨d2, p2, h2⟩ := ih1 h1
    exact ⟨d2, p2.trans p1, h2⟩
theorem ints_rd : ∀ ns : List Int, RDs K m B H (ns.map D.int) (ns.map V.int)
  | [] => RDs.nil
  | i :: r => RDs.cons (RDi i) (ints_rd r)
theorem RD.tupI {ns : List Int} {v : V} (h : RD K m B H (.tup (ns.map D.int)) v) : TupI K H v ns := by
  unfold RD at h
  obtain ⟨a, vs, rfl, f, r⟩ := h
  refine ⟨a, rfl, ?_⟩
  rw [← intsD_ok r (intsD_map ns)]
  exact f.sq
theorem RDs.mem : ∀ {ds : List D} {vs : List V}, RDs K m B H ds vs → ∀ v ∈ vs, ∃ d ∈ ds, RD K m B H d v
  | [], _, h, v, hv => by unfold RDs at h; subst h; cases hv
  | d :: ds, _, h, v, hv => by
    unfold RDs at h
    obtain ⟨x, r, rfl, h1, h2⟩ := h
    rcases List.mem_cons.mp hv with rfl | hv
    · exact ⟨d, List.mem_cons_self .., h1⟩
    · obtain ⟨d', m', r'⟩ := RDs.mem h2 v hv
      exact ⟨d', List.mem_cons_of_mem _ m', r'⟩
theorem RDs.pw {d : Nat} : ∀ {ds : List D} {vs : List V}, (∀ x ∈ ds, ∃ ns : List Int, x = .tup (ns.map D.int) ∧ ns.length = d ∧ TS.Bd 1024 ns) → RDs K m B H ds vs → vs.Pairwise (fun x y => ∀ n k, TupI K H x n → TupI K H y k → TS.code 1024 n ≤ TS.code 1024 k) → ds.Pairwise fun x y => keyT x ≤ keyT y
  | [], _, _, _, _ => .nil
  | d :: ds, _, hb, h, q => by
    unfold RDs at h
    obtain ⟨x, r, rfl, h1, h2⟩ := h
    obtain ⟨q1, q2⟩ := List.pairwise_cons.mp q
    refine List.pairwise_cons.mpr ⟨fun e he => ?_, RDs.pw (fun x hx => hb x (List.mem_cons_of_mem _ hx)) h2 q2⟩
    obtain ⟨n1, rfl, _, _⟩ := hb d (List.mem_cons_self ..)
    obtain ⟨n2, rfl, _, _⟩ := hb e (List.mem_cons_of_mem _ he)
    obtain ⟨i, hi, e2⟩ := List.getElem_of_mem he
    obtain ⟨v, hv, rv⟩ := h2.get (show ds[i]? = some (.tup (n2.map D.int)) by rw [List.getElem?_eq_getElem hi, e2])
    rw [keyT_tup, keyT_tup]
    exact q1 v (List.mem_of_getElem? hv) _ _ h1.tupI rv.tupI
end
def rSortA (K : PySem.W.Frag) : List V → Hp → VK → Prop := fun vs H Q => rSortedI K vs H Q ∨ ∃ d : Nat, 1 ≤ d ∧ rSortU K d 1024 vs H Q
theorem cr_sortA {X : Cx} : CallR X (.builtin "sorted") (rSortA X.K) := cr_sortedI.or fun pins s σ H xs us Q I rs ⟨d, hd, q⟩ => cr_sortT hd pins s σ H xs us Q I rs q
section
variable {X : Cx} {pos p0 p1 p2 : Pos} {e : Expr} {t : DA}
theorem zl_sorted (hm : X.mg "sorted" = none) (ha : ZA X [e] t) (hg : Gl X "sorted" := by rfl) (he : starEach [e] X.env = (false, eval e X.env) :: starEach [] X.env := by rfl) : ZL X (.Call (.Name "sorted" p0) [e] [] pos) (lSort t) := fun W tk =>
  pe_weak (pe_callB cr_sortA hg hm (by decide +kernel) (ha W tk) (by decide) (by decide) he (by rfl)) fun σ H Q ⟨m, B, ρ, S, rs, e, p⟩ => tAr.takeL rs e p fun ds S1 m1 H1 vs g1 r1 e1 rds p1 => by
    match ds, rds, p1 with
    | [], _, p1 => exact p1.elim
    | _ :: _ :: _, _, p1 => exact p1.elim
    | [d], rds, p1 =>
      obtain ⟨v, rfl, rv⟩ := rds.one
      simp only [gSort] at p1
      split at p1
      · rename_i ds hd
        obtain ⟨a, us, rfl, sq, r⟩ := lstOf_ok r1 rv hd
        split at p1
        · rename_i hi
          obtain ⟨ns, hn⟩ := Option.isSome_iff_exists.mp hi
          have ed := intsD_len hn
          rw [intsD_ok r hn] at sq
          refine .inl ⟨a, ns, rfl, sq, fun ns' p hp hs hpn => ?_⟩
          have eq : ns'.map D.int = sortK keyT ds := by
            rw [ed]
            exact sortK_uniq (hp.map _) (List.pairwise_map.mpr hs) ints_inj
          rw [← eq] at p1
          exact p1.put r1 (ints_rd ns') hpn
        · split at p1
          · rename_i hc
            refine .inr ⟨lenT ds, hc.2.1, a, us, rfl, sq, by rw [← r.len]; exact hc.1, fun x hx => ?_, fun ys p hp hs hpn => ?_⟩
            · obtain ⟨y, hy, ry⟩ := r.mem x hx
              obtain ⟨ns, rfl, h1, h2⟩ := tupsB_at hc.2.2 hy
              exact ⟨ns, ry.tupI, h1, h2⟩
            · obtain ⟨ds', q1, q2⟩ := r.perm hp
              have eq : ds' = sortK keyT ds := sortK_uniq q1 (RDs.pw (fun x hx => tupsB_at hc.2.2 (q1.mem_iff.mp hx)) q2 hs) (tupsB_inj hc.2.2)
              rw [← eq] at p1
              exact p1.put r1 q2 hpn
          · exact p1.elim
      · exact p1.elim

/-! ### sorted(set(xs)) -/
def gSortSet (S : Sto) : List D → R (List D)
  | [x] => match lstOf S x with
    | some ds => if ds.length < 64 ∧ ((intsD ds).isSome = true ∨ 1 ≤ lenT ds ∧ tupsB (lenT ds) ds = true) then .ok (usortK keyT ds) S else .bad
    | none => .bad
  | _ => .bad
def lSortSet (a : DA) : DA := fun ρ S => (a ρ S).bind fun ds S1 => gSortSet S1 ds
/-- set(xs), whole numbers -/
def rSetI (K : PySem.W.Frag) (w : World) : List V → Hp → VK → Prop := fun xs H Q => ∃ (l : Addr) (ns : List Int), xs = [V.ref l] ∧ SqL K H l (ns.map V.int) ∧ ns.length < 64 ∧ ∀ a c, H a = none → c ≤ ns.length → Q (.ref a) (upd H a (SetO w a (fun j => decide (j ∈ ns)) c))
theorem cr_setI (hc : X.calm = true) : CallR X (.type "set") (rSetI X.K X.w) := by
  intro pins s σ H xs us Q I r h
  obtain ⟨l, ns, rfl, hl, hf, q⟩ := h
  rw [Vals.ref1 r]
  obtain ⟨its, rv, pl, hz⟩ := I.list hl
  have hn : H s.heap.objs.size = none := I.hok.fresh (Nat.le_refl _)
  refine set_ofInts (P := X.prog) (w := X.w) (ns := ns) (I.ok.hd hc) pl.isList (by simpa using rv.ints) (by unfold scanBound; omega) fun s' hs => ?_
  obtain ⟨h', tk, c, rfl, R, hle, k⟩ := hs
  exact ⟨.ref s.heap.objs.size, upd H s.heap.objs.size (SetO X.w s.heap.objs.size (fun j => decide (j ∈ ns)) c), I.laid (t' := tk) k (Nat.le_refl _) (setO_new R), rfl, q _ c hn hle⟩
theorem zl_sortSet (hc : X.calm = true) (hu : X.A.units + 64 < cLine) (hm : X.mg "sorted" = none) (hm2 : X.mg "set" = none) (ha : ZA X [e] t) (hg : Gl X "sorted" := by rfl) (hg2 : Gl X "set" := by rfl) (he : starEach [e] X.env = (false, eval e X.env) :: starEach [] X.env := by rfl)
    (he2 : starEach [.Call (.Name "set" p1) [e] [] p2] X.env = (false, eval (.Call (.Name "set" p1) [e] [] p2) X.env) :: starEach [] X.env := by rfl) : ZL X (.Call (.Name "sorted" p0) [.Call (.Name "set" p1) [e] [] p2] [] pos) (lSortSet t) := fun W tk =>
  pe_weak (pe_callB ((cr_sortedSet hc).or (cr_sortedT hc)) hg hm (by decide +kernel) (pa_cons (pe_callTy ((cr_setI hc).or (cr_setOfT hc hu)) hg2 hm2 (by decide +kernel) (ha W tk) (by decide) (by decide) he (by rfl)) pa_nil he2) (by decide) (by decide) he2 (by rfl)) fun σ H Q ⟨m, B, ρ, S, rs, e, p⟩ => tAr.takeL rs e p fun ds S1 m1 H1 vs g1 r1 e1 rds p1 => by
    match ds, rds, p1 with
    | [], _, p1 => exact p1.elim
    | _ :: _ :: _, _, p1 => exact p1.elim
    | [d], rds, p1 =>
      obtain ⟨v, rfl, rv⟩ := rds.one
      simp only [gSortSet] at p1
      split at p1
      · rename_i ds hd
        obtain ⟨a, us, rfl, sq, r⟩ := lstOf_ok r1 rv hd
        split at p1
        · rename_i hk
          obtain ⟨h64, hk⟩ := hk
          by_cases hi : (intsD ds).isSome = true
          · obtain ⟨ns, hn⟩ := Option.isSome_iff_exists.mp hi
            have ed := intsD_len hn
            rw [intsD_ok r hn] at sq
            have hln : ns.length < 64 := by rw [ed, List.length_map] at h64; exact h64
            refine .inl ⟨a, ns, rfl, sq, hln, fun b c hb hcn => ?_⟩
            refine .inl ⟨b, _, c, rfl, upd_same, by omega, fun ks p hs hmem hlen hp => ?_⟩
            have eq : ks.map D.int = usortK keyT ds := by
              rw [ed]
              refine usortK_uniq (fun z => ?_) (List.pairwise_map.mpr hs) ints_inj
              constructor
              · intro hz
                obtain ⟨i, hi, rfl⟩ := List.mem_map.mp hz
                exact List.mem_map.mpr ⟨i, of_decide_eq_true ((hmem i).mp hi), rfl⟩
              · intro hz
                obtain ⟨i, hi, rfl⟩ := List.mem_map.mp hz
                exact List.mem_map.mpr ⟨i, (hmem i).mpr (decide_eq_true hi), rfl⟩
            rw [← eq] at p1
            obtain ⟨g2, r2⟩ := r1.new (u := SetO X.w b (fun j => decide (j ∈ ns)) c) hb
            exact PostL.put (p1.ge g2) r2 (ints_rd ks) hp
          · obtain ⟨hd1, hd2⟩ := hk.resolve_left hi
            have hall : ∀ x ∈ ds, ∃ ns : List Int, x = .tup (ns.map D.int) ∧ ns.length = lenT ds ∧ TS.Bd 1024 ns := fun x hx => tupsB_at hd2 hx
            have hks : ∃ ks : List (Addr × List Int), us = ks.map (fun p => V.ref p.1) ∧ (∀ p ∈ ks, SqT X.K H1 p.1 (p.2.map V.int)) ∧ ds = ks.map (fun p => D.tup (p.2.map D.int)) ∧ ∀ p ∈ ks, RD X.K m1 B H1 (.tup (p.2.map D.int)) (.ref p.1) := by
              clear p1 hd hd2 hi hd1 hk sq h64
              generalize lenT ds = dd at hall
              induction ds generalizing us with
              | nil => unfold RDs at r; exact ⟨[], r, fun p hp => (by cases hp), rfl, fun p hp => (by cases hp)⟩
              | cons x ds ih =>
                unfold RDs at r
                obtain ⟨v, rr, rfl, h1, h2⟩ := r
                obtain ⟨ns, rfl, _, _⟩ := hall x (List.mem_cons_self ..)
                obtain ⟨ks, q1, q2, q3, q4⟩ := ih rr h2 fun y hy => hall y (List.mem_cons_of_mem _ hy)
                obtain ⟨b, rfl, hb⟩ := h1.tupI
                refine ⟨(b, ns) :: ks, by rw [q1]; rfl, fun p hp => ?_, by rw [q3]; rfl, fun p hp => ?_⟩
                · rcases List.mem_cons.mp hp with rfl | hp
                  · exact hb
                  · exact q2 p hp
                · rcases List.mem_cons.mp hp with rfl | hp
                  · exact h1
                  · exact q4 p hp
            obtain ⟨ks, q1, q2, q3, q4⟩ := hks
            subst q1
            have hbd : ∀ p ∈ ks, p.2.length = lenT ds ∧ TS.Bd 1024 p.2 := fun p hp => by
              obtain ⟨ns, e1, e2, e3⟩ := hall (.tup (p.2.map D.int)) (by rw [q3]; exact List.mem_map.mpr ⟨p, hp, rfl⟩)
              have e4 : p.2 = ns := by
                have := congrArg tupI e1
                simp only [tupI, intsD_map] at this
                exact Option.some.inj this
              rw [e4]
              exact ⟨e2, e3⟩
            refine .inr ⟨a, ks, rfl, sq, q2, by rw [q3, List.length_map] at h64; exact h64, fun b L hb hL1 hL2 => ?_⟩
            obtain ⟨g2, r2⟩ := r1.new (u := SetTO X.prog X.w b L) hb
            refine .inr ⟨b, L, lenT ds, 1024, rfl, upd_same, fun p hp => ?_, hd1, fun p hp => hbd p (hL1 p hp), fun L' p hpm hnd hlen hpw hp => ?_⟩
            · have := (q4 p (hL1 p hp)).mono g2.tr
              obtain ⟨b', e, h'⟩ := this.tupI
              cases e
              exact h'
            · have hsub : ∀ q ∈ L', q ∈ ks := fun q hq => hL1 q (hpm.mem_iff.mp hq)
              have eq : L'.map (fun q => D.tup (q.2.map D.int)) = usortK keyT ds := by
                refine usortK_uniq (fun z => ?_) ?_ (tupsB_inj hd2)
                · rw [q3]
                  constructor
                  · intro hz
                    obtain ⟨q, hq, rfl⟩ := List.mem_map.mp hz
                    exact List.mem_map.mpr ⟨q, hsub q hq, rfl⟩
                  · intro hz
                    obtain ⟨q, hq, rfl⟩ := List.mem_map.mp hz
                    obtain ⟨q', hq', e⟩ := List.mem_map.mp (hL2 q hq)
                    exact List.mem_map.mpr ⟨q', hpm.mem_iff.mpr hq', by rw [e]⟩
                · rw [List.pairwise_map]
                  have hnd' : L'.Pairwise fun q r => q.2 ≠ r.2 := List.pairwise_map.mp hnd
                  refine (hpw.and hnd').imp_of_mem fun {q r} hq hr ⟨h1, h2⟩ => ?_
                  rw [keyT_tup, keyT_tup]
                  have b1 := hbd q (hsub q hq)
                  have b2 := hbd r (hsub r hr)
                  rcases Int.lt_or_eq_of_le h1 with c | c
                  · exact c
                  · exact absurd (code_inj (by omega) b1.2 b2.2 c) h2
              rw [← eq] at p1
              refine PostL.put (p1.ge g2) r2 ?_ hp
              clear eq hpm hnd hlen hpw p1
              induction L' with
              | nil => exact RDs.nil
              | cons q L' ih => exact RDs.cons ((q4 q (hsub q (List.mem_cons_self ..))).mono g2.tr) (ih fun r hr => hsub r (List.mem_cons_of_mem _ hr))
        · exact p1.elim
      · exact p1.elim
end
end Z
namespace Z
open PySem L2

theorem hu0 {k : Nat} {A : Around} (r : Room k A) : A.units < cLine := by
  have := r.un
  omega
theorem hu1 {k : Nat} {A : Around} (r : Room k A) : A.units + 1 < cLine := by
  have := r.un
  omega
/-! ### dicts -/
def dKey : D → Option Key
  | .int i => some (.inl i)
  | .str s => some (.inr s)
  | _ => none
section
variable {κ α : Type} [DecidableEq κ]
def valA (kvs : List (κ × α)) (k : κ) : Option α := (kvs.find? fun kv => decide (kv.1 = k)).map (·.2)
def putA (kvs : List (κ × α)) (k : κ) (d : α) : List (κ × α) := if (kvs.any fun kv => decide (kv.1 = k)) = true then kvs.map (fun kv => if kv.1 = k then (kv.1, d) else kv) else kvs ++ [(k, d)]
variable {K : PySem.W.Frag} {m B : List Addr} {H : Hp}
theorem RFs.val (k : κ) : ∀ {kvs : List (κ × D)} {vs : List (κ × V)}, RFs K m B H kvs vs → (∀ d, valA kvs k = some d → ∃ v, valV vs k = some v ∧ RD K m B H d v) ∧ (valA kvs k = none → valV vs k = none)
  | [], _, h => by
    have h' : _ = _ := h
    subst h'
    exact ⟨fun d e => by simp [valA] at e, fun _ => rfl⟩
  | p :: kvs, _, ⟨x, r, e, h1, h2⟩ => by
    subst e
    have ih := RFs.val k h2
    by_cases hp : p.1 = k
    · refine ⟨fun d e => ⟨x, by simp [valV, hp], ?_⟩, fun e => by simp [valA, hp] at e⟩
      simp [valA, hp] at e
      subst e
      exact h1
    · have e1 : valA (p :: kvs) k = valA kvs k := by simp [valA, hp]
      have e2 : valV ((p.1, x) :: r) k = valV r k := by simp [valV, hp]
      rw [e1, e2]
      exact ih
theorem RFs.keys : ∀ {kvs : List (κ × D)} {vs : List (κ × V)}, RFs K m B H kvs vs → kvs.map (·.1) = vs.map (·.1)
  | [], _, h => by
    have h' : _ = _ := h
    subst h'
    rfl
  | p :: kvs, _, ⟨x, r, e, h1, h2⟩ => by
    subst e
    simp [RFs.keys h2]
theorem RFs.len1 {kvs : List (κ × D)} {vs : List (κ × V)} (h : RFs K m B H kvs vs) : kvs.length = vs.length := by
  have := congrArg List.length h.keys
  simpa using this
theorem any_keys {β : Type} (k : κ) : ∀ (l : List (κ × α)), (l.any fun kv => decide (kv.1 = k)) = (l.map (·.1)).any fun x => decide (x = k)
  | [] => rfl
  | p :: l => by rw [List.any_cons, List.map_cons, List.any_cons, any_keys (β := β) k l]
theorem RFs.app {d : D} {v : V} {k : κ} (hd : RD K m B H d v) : ∀ {kvs : List (κ × D)} {vs : List (κ × V)}, RFs K m B H kvs vs → RFs K m B H (kvs ++ [(k, d)]) (vs ++ [(k, v)])
  | [], _, h => by
    have h' : _ = _ := h
    subst h'
    exact ⟨v, [], rfl, hd, rfl⟩
  | p :: kvs, _, ⟨x, r, e, h1, h2⟩ => by
    subst e
    exact ⟨x, _, rfl, h1, RFs.app hd h2⟩
theorem RFs.over {d : D} {v : V} {k : κ} (hd : RD K m B H d v) : ∀ {kvs : List (κ × D)} {vs : List (κ × V)}, RFs K m B H kvs vs → RFs K m B H (kvs.map fun kv => if kv.1 = k then (kv.1, d) else kv) (vs.map fun kv => if kv.1 = k then (kv.1, v) else kv)
  | [], _, h => by
    have h' : _ = _ := h
    subst h'
    rfl
  | p :: kvs, _, ⟨x, r, e, h1, h2⟩ => by
    subst e
    rw [List.map_cons, List.map_cons]
    by_cases hp : p.1 = k
    · rw [if_pos hp, if_pos (show (p.1, x).1 = k from hp)]
      exact ⟨v, _, rfl, hd, RFs.over hd h2⟩
    · rw [if_neg hp, if_neg (show ¬ (p.1, x).1 = k from hp)]
      exact ⟨x, _, rfl, h1, RFs.over hd h2⟩
theorem RFs.putA {d : D} {v : V} {k : κ} (hd : RD K m B H d v) {kvs : List (κ × D)} {vs : List (κ × V)} (h : RFs K m B H kvs vs) : RFs K m B H (Z.putA kvs k d) (putK vs k v) := by
  unfold Z.putA putK
  rw [any_keys (β := Unit) k kvs, any_keys (β := Unit) k vs, h.keys]
  split
  · exact RFs.over hd h
  · exact RFs.app hd h
end
theorem dKey_ok {K : PySem.W.Frag} {m B : List Addr} {H : Hp} {d : D} {v : V} {k : Key} (rd : RD K m B H d v) (h : dKey d = some k) : v = kV k := by
  cases d <;> try (cases h; done)
  · unfold RD at rd
    cases h
    exact rd
  · unfold RD at rd
    cases h
    exact rd
/-- {} -/
def eDct : DE := fun _ S => .ok (.ref S.length) (S ++ [.dct []])
/-- d[k] -/
def fDGet : D → D → Sto → R D
  | .ref n, y, S => match S[n]?, dKey y with
    | some (.dct kvs), some k => match valA kvs k with
      | some d => .ok d S
      | none => .bad
    | _, _ => .bad
  | _, _, _ => .bad
/-- k in d -/
def fDIn (neg : Bool) : D → D → Sto → R D
  | y, .ref n, S => match S[n]?, dKey y with
    | some (.dct kvs), some k => .ok (.bl (if neg = true then !(valA kvs k).isSome else (valA kvs k).isSome)) S
    | _, _ => .bad
  | _, _, _ => .bad
/-- d[k] = x -/
def sDPut' (a o i : DE) : DS := fun ρ S => (a ρ S).to ρ fun x S1 => (o ρ S1).to ρ fun d S2 => (i ρ S2).to ρ fun y S3 => match d with
  | .ref n => match S3[n]?, dKey y with
    | some (.dct kvs), some k => if kvs.length < 16777216 then .nx ρ (S3.set n (.dct (putA kvs k x))) else .bad
    | _, _ => .bad
  | _ => .bad
def isDc (S : Sto) (n : Nat) : Bool := match S[n]? with
  | some (.dct _) => true
  | _ => false
def gSetd (n : Nat) (y z : D) (S : Sto) : R D := match S[n]?, dKey y with
  | some (.dct kvs), some k => if kvs.length < 16777216 then match valA kvs k with
    | some d => .ok d S
    | none => .ok z (S.set n (.dct (putA kvs k z)))
    else .bad
  | _, _ => .bad
def eSetd (a b c : DE) : DE := fun ρ S => (a ρ S).bind fun x S1 => match x with
  | .ref n => if isDc S1 n = true then (b ρ S1).bind fun y S2 => (c ρ S2).bind fun z S3 => gSetd n y z S3 else .bad
  | _ => .bad
section
variable {X : Cx} {pos p0 apos : Pos} {a b c o i : Expr} {da db dc dobj di : DE}
theorem ze_dct : ZE X (.Dict [] [] pos) eDct := fun W tk => pe_weak pe_dnewK fun σ H Q ⟨m, B, ρ, S, rs, e, p⟩ => fun q hq => by
  obtain ⟨g, r⟩ := rs.new (u := .dK []) hq
  have r2 := (rs.ban (u := .dK []) hq).own (o := .dct []) (rs.notB hq) ⟨[], upd_same, rfl⟩
  refine p (m ++ [q]) _ (g.own (nw_none hq)) r2 _ ?_
  unfold RD
  exact ⟨q, rfl, by rw [List.getElem?_append_right (by rw [rs.len]; exact Nat.le_refl _), rs.len]; simp⟩
theorem ze_dget (hu : X.A.units + 1 < cLine) (ha : ZE X a da) (hb : ZE X b db) (hs : NoSl b := by exact fun _ _ => rfl) : ZE X (.Subscript a b pos) (e2 fDGet da db) := fun W tk => pe_weak (pe_dget hu (ha W tk) (hb W tk) hs) fun σ H Q ⟨m, B, ρ, S, rs, e, p⟩ =>
  tE.take (f := fun x S1 => (db ρ S1).bind fun y S2 => fDGet x y S2) rs e p fun d S1 m1 H1 v g1 r1 e1 rd p1 => tE.take (f := fun y S2 => fDGet d y S2) r1 e1 p1 fun y S2 m2 H2 u g2 r2 e2 ry p2 => by
    cases d <;> try exact p2.elim
    rename_i n
    have rd2 := rd.mono g2.tr
    unfold RD at rd2
    obtain ⟨q, rfl, hq⟩ := rd2
    simp only [fDGet] at p2
    split at p2
    · rename_i kvs k hn hk
      split at p2
      · rename_i x hx
        obtain ⟨vs, ev, rv⟩ := r2.ob n q _ hq hn
        obtain ⟨w, hw, rw'⟩ := (rv.val k).1 x hx
        refine ⟨q, w, rfl, ?_, p2.now r2 w rw'⟩
        rw [dKey_ok ry hk, ← hw]
        exact DGet.k ev
      · exact p2.elim
    · exact p2.elim
theorem pc_dinD {neg : Bool} {op : CmpOp} {t : TE} (hp : ∀ {ty td : TE}, PE X b ty → PE X a td → PC X op b a (fun σ H Q => ty σ H fun y H1 => td σ H1 fun x H2 => ∃ a o, x = .ref a ∧ DGet H2 a y o ∧ Q (.bl (if neg = true then !o.isSome else o.isSome)) H2)) (hb : ZE X b db) (ha : ZE X a da) (hm : behindInMarks op a = false) :
    ZE X (.Compare b [op] [a] pos) (e2 (fDIn neg) db da) := fun W tk => pe_weak (pe_cmp (hp (hb W tk) (ha W tk)) hm) fun σ H Q ⟨m, B, ρ, S, rs, e, p⟩ =>
  tE.take (f := fun x S1 => (da ρ S1).bind fun y S2 => fDIn neg x y S2) rs e p fun y S1 m1 H1 u g1 r1 e1 ry p1 => tE.take (f := fun x S2 => fDIn neg y x S2) r1 e1 p1 fun d S2 m2 H2 v g2 r2 e2 rd p2 => by
    cases d <;> try (cases y <;> exact p2.elim)
    rename_i n
    unfold RD at rd
    obtain ⟨q, rfl, hq⟩ := rd
    simp only [fDIn] at p2
    split at p2
    · rename_i kvs k hn hk
      obtain ⟨vs, ev, rv⟩ := r2.ob n q _ hq hn
      have hv := rv.val k
      refine ⟨q, valV vs k, rfl, by rw [dKey_ok (ry.mono g2.tr) hk]; exact DGet.k ev, ?_⟩
      have es : (valV vs k).isSome = (valA kvs k).isSome := by
        cases h : valA kvs k with
        | none => rw [hv.2 h]; rfl
        | some d => obtain ⟨w, hw, _⟩ := hv.1 d h; rw [hw]; rfl
      rw [es]
      exact p2.now r2 _ (RDb _)
    · exact p2.elim
theorem ze_din (hu : X.A.units + 1 < cLine) (hb : ZE X b db) (ha : ZE X a da) (hm : behindInMarks .In a = false := by rfl) : ZE X (.Compare b [.In] [a] pos) (e2 (fDIn false) db da) := pc_dinD (t := fun _ _ _ => True) (fun h1 h2 => pc_din hu h1 h2) hb ha hm
theorem ze_dnotin (hu : X.A.units + 1 < cLine) (hb : ZE X b db) (ha : ZE X a da) (hm : behindInMarks .NotIn a = false := by rfl) : ZE X (.Compare b [.NotIn] [a] pos) (e2 (fDIn true) db da) := pc_dinD (t := fun _ _ _ => True) (fun h1 h2 => pc_dnotin hu h1 h2) hb ha hm
theorem zs_dput {p1 : Pos} (hu : X.A.units + 1 < cLine) (ha : ZE X a da) (ho : ZE X o dobj) (hi : ZE X i di) (hs : swapsWith a (some (.Subscript o i p1)) pos.line X.env = pure false := by rfl) : ZS X (.Assign [.Subscript o i p1] a pos) (sDPut' da dobj di) := fun W tk =>
  ps_weak (ps_dput hu (ho W tk) (hi W tk) (ha W tk) hs) fun E σ H ⟨m, B, ρ, S, rs, e, p⟩ => tE.takeS rs e p fun x S1 m1 H1 v g1 r1 e1 rx p1 => tE.takeS r1 e1 p1 fun d S2 m2 H2 u g2 r2 e2 rd p2 => tE.takeS r2 e2 p2 fun y S3 m3 H3 w g3 r3 e3 ry p3 => by
    cases d <;> try exact p3.elim
    rename_i n
    have rd2 := rd.mono g3.tr
    unfold RD at rd2
    obtain ⟨q, rfl, hq⟩ := rd2
    simp only at p3
    split at p3
    · rename_i kvs k hn hk
      split at p3
      · rename_i hl
        obtain ⟨vs, ev, rv⟩ := r3.ob n q _ hq hn
        obtain ⟨g4, r4⟩ := r3.put (u := .dK (putK vs k v)) (o := .dct (putA kvs k x)) hq fun H' g h' => ⟨_, h', RFs.putA ((rx.mono (g2.trans g3).tr).mono g.tr) (RFs.mono g.tr _ _ rv)⟩
        refine ⟨q, _, rfl, by rw [dKey_ok ry hk]; exact DPut.k ev (by rw [← rv.len1, sizeLine_eq]; exact hl), ?_⟩
        exact p3 m3 _ σ g4 r4 (e3.mono g4.tr)
      · exact p3.elim
    · exact p3.elim
theorem ze_setd (ho : ZE X o dobj) (hb : ZE X b db) (hc : ZE X c dc) (hba : attributeBase o "setdefault" X.env (eval o X.env) = eval o X.env := by rfl)
    (hfew : ((backTo pos (starEach [b, c] X.env)).all (fun x => !x.1) && (backToKw pos (keywordEach [] X.env)).all (fun x => x.1.isSome) && decide (([b, c] : List Expr).length + ([] : List Keyword).length + (if ([] : List Keyword).isEmpty then 0 else 1) < 30)) = true := by rfl)
    (hl : (apos.endLine == pos.line) = true := by rfl) (ht : backTo pos (starEach [b, c] X.env) = [(false, eval b X.env), (false, eval c X.env)] := by rfl) : ZE X (.Call (.Attribute o "setdefault" apos) [b, c] [] pos) (eSetd dobj db dc) := fun W tk =>
  pe_weak (pe_dsetd (ho W tk) (hb W tk) (hc W tk) ⟨hba, hfew, hl, ht⟩) fun σ H Q ⟨m, B, ρ, S, rs, e, p⟩ => tE.takeA rs e p fun d S1 m1 H1 v g1 r1 e1 rd p1 => by
    cases d <;> try exact p1.elim
    rename_i n
    have rd' := rd
    unfold RD at rd'
    obtain ⟨q, rfl, hq⟩ := rd'
    simp only at p1
    split at p1
    · rename_i hd
      unfold isDc at hd
      split at hd
      · rename_i kvs0 hn0
        obtain ⟨vs0, ev0, _⟩ := r1.ob n q _ hq hn0
        refine ⟨q, rfl, .inl ⟨vs0, .inl ev0⟩, tE.takeA r1 e1 p1 fun y S2 m2 H2 u g2 r2 e2 ry p2 => tE.takeA r2 e2 p2 fun z S3 m3 H3 w g3 r3 e3 rz p3 => ?_⟩
        have rd3 := rd.mono (g2.trans g3).tr
        unfold RD at rd3
        obtain ⟨q', eq', hq3⟩ := rd3
        cases eq'
        simp only [gSetd] at p3
        split at p3
        · rename_i kvs k hn hk
          split at p3
          · rename_i hlen
            obtain ⟨vs, ev, rv⟩ := r3.ob n q _ hq3 hn
            have hv := rv.val k
            refine ⟨vs, k, ev, dKey_ok (ry.mono g3.tr) hk, by rw [← rv.len1, sizeLine_eq]; exact hlen, fun x hx => ?_, fun hx => ?_⟩
            · cases h : valA kvs k with
              | none => rw [hv.2 h] at hx; cases hx
              | some d =>
                rw [h] at p3
                obtain ⟨x', hx', rx'⟩ := hv.1 d h
                rw [hx] at hx'
                cases hx'
                exact p3.now r3 x rx'
            · cases h : valA kvs k with
              | some d => obtain ⟨x', hx', _⟩ := hv.1 d h; rw [hx] at hx'; cases hx'
              | none =>
                rw [h] at p3
                obtain ⟨g4, r4⟩ := r3.put (u := .dK (putK vs k w)) (o := .dct (putA kvs k z)) hq3 fun H' g h' => ⟨_, h', RFs.putA (rz.mono g.tr) (RFs.mono g.tr _ _ rv)⟩
                exact p3 m3 _ g4 r4 w (rz.mono g4.tr)
          · exact p3.elim
        · exact p3.elim
      · cases hd
    · exact p1.elim
end
end Z
namespace Z
open PySem L2
/-! ### a loop as a fold -/
theorem forI_fold {α β : Type} {tg : Tg} {chk : Sto → Prop} {b : DS} (emb : α → D) (P : β → Env → Sto → Prop) (g : β → α → β) : ∀ (as : List α) (b0 : β) (ρ : Env) (S : Sto), P b0 ρ S →
    (∀ a ∈ as, ∀ x ρ S, P x ρ S → ∃ ρ1, Tg.asg S tg (emb a) ρ = some ρ1 ∧ ∃ ρ' S', (b ρ1 S = .nx ρ' S' ∨ b ρ1 S = .ct ρ' S') ∧ chk S' ∧ P (g x a) ρ' S') → ∃ ρ' S', forI tg b chk (as.map emb) ρ S = .nx ρ' S' ∧ P (as.foldl g b0) ρ' S'
  | [], b0, ρ, S, h, _ => ⟨ρ, S, rfl, h⟩
  | a :: as, b0, ρ, S, h, step => by
    obtain ⟨ρ1, h1, ρ', S', h2, h3, h4⟩ := step a (List.mem_cons_self ..) b0 ρ S h
    obtain ⟨ρ2, S2, h5, h6⟩ := forI_fold emb P g as (g b0 a) ρ' S' h4 fun y hy => step y (List.mem_cons_of_mem _ hy)
    refine ⟨ρ2, S2, ?_, h6⟩
    rw [List.map_cons]
    rcases h2 with h2 | h2 <;> simp [forI, h1, h2, h3, h5]
theorem iRow_map0 (n : Nat) : iRow 0 n = (List.range n).map fun i : Nat => D.int (i : Nat) := by simp [iRow]
theorem iseq_lv {r : DA} {ρ : Env} {S S' : Sto} {ds : List D} (h : r ρ S = .ok ds S') : iSeq (eLV r) ρ S = .ok (ds, fun _ => True) S' := by simp [iSeq, eLV, h]
theorem forI_idx {tg : Tg} {chk : Sto → Prop} {b : DS} (P : Nat → Env → Sto → Prop) (ds : List D) (ρ : Env) (S : Sto) (h0 : P 0 ρ S)
    (step : ∀ i d, ds[i]? = some d → ∀ ρ S, P i ρ S → ∃ ρ1, Tg.asg S tg d ρ = some ρ1 ∧ ∃ ρ' S', (b ρ1 S = .nx ρ' S' ∨ b ρ1 S = .ct ρ' S') ∧ chk S' ∧ P (i + 1) ρ' S') : ∃ ρ' S', forI tg b chk ds ρ S = .nx ρ' S' ∧ P ds.length ρ' S' := by
  have main : ∀ (r : List D) (j : Nat) (ρ : Env) (S : Sto), ds.drop j = r → j ≤ ds.length → P j ρ S → ∃ ρ' S', forI tg b chk r ρ S = .nx ρ' S' ∧ P ds.length ρ' S' := by
    intro r
    induction r with
    | nil =>
      intro j ρ S hj hl h
      have : ds.length ≤ j := List.drop_eq_nil_iff.mp hj
      have e : j = ds.length := by omega
      subst e
      exact ⟨ρ, S, rfl, h⟩
    | cons d r ih =>
      intro j ρ S hj hl h
      have hd : ds[j]? = some d := by
        have := congrArg (fun l => l[0]?) hj
        simpa using this
      have hl2 : j < ds.length := (List.getElem?_eq_some_iff.mp hd).1
      have hr : ds.drop (j + 1) = r := by
        have := congrArg List.tail hj
        simpa using this
      obtain ⟨ρ1, e1, ρ', S', e2, e3, e4⟩ := step j d hd ρ S h
      obtain ⟨ρ2, S2, e5, e6⟩ := ih (j + 1) ρ' S' hr (by omega) e4
      refine ⟨ρ2, S2, ?_, e6⟩
      rcases e2 with e2 | e2 <;> simp [forI, e1, e2, e3, e5]
  exact main ds 0 ρ S (by simp) (by omega) h0
theorem drop_app {j q : Nat} {e : DE} {ρ : Env} {S S1 : Sto} {x : D} {ds ds0 : List D} (hj : eV j ρ S = .ok (.ref q) S) (hl : S[q]? = some (.lst ds0)) (he : e ρ S = .ok x S1) (hq : S1[q]? = some (.lst ds)) (hn : ds.length < 16777216) : sDrop (eBM fApp (eV j) (aC e aN)) ρ S = .nx ρ (S1.set q (.lst (ds ++ [x]))) := by
  simp [sDrop, eBM, hj, isL, hl, aC, aN, he, fApp, hq, hn]
theorem drop_ext {j q : Nat} {r : DA} {ρ : Env} {S S1 : Sto} {es ds ds0 : List D} (hj : eV j ρ S = .ok (.ref q) S) (hl : S[q]? = some (.lst ds0)) (he : r ρ S = .ok es S1) (hq : S1[q]? = some (.lst ds)) (hn : ds.length + es.length ≤ 16777216) : sDrop (eBM fExt (eV j) (aC (eLV r) aN)) ρ S = .nx ρ (S1.set q (.lst (ds ++ es))) := by
  simp [sDrop, eBM, hj, isL, hl, aC, aN, eLV, he, fExt, lstH, hq, hn]
/-- a comprehension whose turns change the store -/
theorem lcI_state {tg : Tg} {chk : Sto → Prop} {e : DE} {ρ0 : Env} (P : Sto → Prop) (Q : D → D → Prop) (hc : ∀ S, P S → chk S) : ∀ (ds : List D) (S : Sto), P S → (∀ d ∈ ds, ∀ S, P S → ∃ ρ1, Tg.asg S tg d ρ0 = some ρ1 ∧ ∃ y S', e ρ1 S = .ok y S' ∧ P S' ∧ Q d y) →
    ∃ ys S', lcI tg chk tYes e ρ0 ds S = .ok ys S' ∧ P S' ∧ ys.length = ds.length ∧ ∀ (i : Nat) d y, ds[i]? = some d → ys[i]? = some y → Q d y
  | [], S, h, _ => ⟨[], S, rfl, h, rfl, fun i d y h => by simp at h⟩
  | d :: ds, S, h, step => by
    obtain ⟨ρ1, e1, y, S', e2, e3, e4⟩ := step d (List.mem_cons_self ..) S h
    obtain ⟨ys, S2, h1, h2, h3, h4⟩ := lcI_state P Q hc ds S' e3 fun x hx => step x (List.mem_cons_of_mem _ hx)
    refine ⟨y :: ys, S2, ?_, h2, by simp [h3], ?_⟩
    · have := hc S' e3
      simp [lcI, e1, tYes, e2, R.safe, this, h1]
    · intro i a b ha hb
      cases i with
      | zero =>
        simp at ha hb
        subst ha hb
        exact e4
      | succ i => exact h4 i a b (by simpa using ha) (by simpa using hb)
theorem cutA_hi {α : Type} (xs : List α) (v : Nat) : cutA xs none (some (v : Int)) = xs.take v := by
  unfold cutA
  rw [HT.sIx_nat]
  show (xs.drop 0).take (min v xs.length - 0) = _
  rw [List.drop_zero, Nat.sub_zero]
  by_cases h : v ≤ xs.length
  · rw [Nat.min_eq_left h]
  · rw [Nat.min_eq_right (by omega), List.take_length, List.take_of_length_le (by omega)]
theorem cutA_lo {α : Type} (xs : List α) (v : Nat) : cutA xs (some (v : Int)) none = xs.drop v := by
  unfold cutA
  rw [HT.sIx_nat]
  show (xs.drop (min v xs.length)).take (xs.length - min v xs.length) = _
  by_cases h : v ≤ xs.length
  · rw [Nat.min_eq_left h, List.take_of_length_le (by simp)]
  · rw [Nat.min_eq_right (by omega), List.drop_length, List.drop_of_length_le (by omega)]
    simp
/-- one place of a row changed -/
def upd (xs : List D) (i : Nat) (y : D) : List D := xs.take i ++ y :: xs.drop (i + 1)
theorem upd_len {xs : List D} {i : Nat} (y : D) (h : i < xs.length) : (upd xs i y).length = xs.length := by
  simp [upd]
  omega
theorem upd_at {xs : List D} {i : Nat} (y : D) (h : i < xs.length) : (upd xs i y)[i]? = some y := by
  unfold upd
  rw [List.getElem?_append_right (by simp; omega)]
  simp [Nat.min_eq_left (Nat.le_of_lt h)]
theorem upd_lt {xs : List D} {i j : Nat} (y : D) (h : i < xs.length) (hj : j < i) : (upd xs i y)[j]? = xs[j]? := by
  unfold upd
  rw [List.getElem?_append_left (by simp; omega), List.getElem?_take, if_pos hj]
theorem e_upd {a y : DE} {p i : Nat} {xs : List D} {ρ : Env} {S S1 : Sto} {d : D} (ha : a ρ S = .ok (.tup xs) S) (ha1 : a ρ S1 = .ok (.tup xs) S1) (hp : ∀ S, eV p ρ S = .ok (.int (i : Nat)) S) (hy : y ρ S = .ok d S1) (hi : i < xs.length) (hl : xs.length ≤ 1000) :
    (Z.e2 fPlus (Z.e2 fPlus (eSl a oN (oS (eV p))) (eTup (aC y aN))) (eSl a (oS (Z.e2 fPlus (eV p) (eC (.int 1)))) oN)) ρ S = .ok (.tup (upd xs i d)) S1 := by
  have e1 : ((i : Nat) : Int) + 1 = ((i + 1 : Nat) : Int) := by omega
  have l1 : (xs.take i).length + 1 ≤ 16777216 := by simp; omega
  have l2 : (xs.take i ++ [d]).length + (xs.drop (i + 1)).length ≤ 16777216 := by simp; omega
  have s1 : eSl a oN (oS (eV p)) ρ S = .ok (.tup (xs.take i)) S := by
    simp only [eSl, ha, R.bind_ok, oN, oS, hp, fSl, cutA_hi]
  have s2 : eSl a (oS (Z.e2 fPlus (eV p) (eC (.int 1)))) oN ρ S1 = .ok (.tup (xs.drop (i + 1))) S1 := by
    simp only [eSl, ha1, R.bind_ok, oN, oS, Z.e2, hp, eC, fPlus, fSl, e1, cutA_lo]
  have s3 : eTup (aC y aN) ρ S = .ok (.tup [d]) S1 := by simp [eTup, aC, aN, hy]
  have s4 : fPlus (.tup (xs.take i)) (.tup [d]) S1 = .ok (.tup (xs.take i ++ [d])) S1 := by
    simp only [fPlus]
    rw [if_pos (by simpa using l1)]
  have s5 : fPlus (.tup (xs.take i ++ [d])) (.tup (xs.drop (i + 1))) S1 = .ok (.tup (upd xs i d)) S1 := by
    simp only [fPlus]
    rw [if_pos l2]
    simp [upd]
  rw [e2_ok (e2_ok s1 s3 |>.trans s4) s2]
  exact s5
end Z
namespace Z
open PySem PySem.Spec PyProof.Rows L2 LamX
/-! ### a lambda handed to a def that calls it and catches -/
/-- what the first thing of the store tells of a table -/
def isTab : Sto → Option (Addr × Str)
  | .tab P q :: _ => some (P, q)
  | _ => none
theorem isTab_at {S : Sto} {P : Addr} {q : Str} (h : isTab S = some (P, q)) : S[0]? = some (.tab P q) := by
  cases S with
  | nil => cases h
  | cons o S => cases o <;> simp [isTab] at h ⊢; exact h
def eRef (P : Addr) (q : Str) (mt : Addr → Option Bool) (cs : List Addr) (wd : Str) (de : DE) : DE := fun ρ S => if isTab S = some (P, q) then match de ρ S with
  | .ok _ S' => .ok .non S'
  | .exc C d S' => if mt C = some true ∧ C ∈ cs then .ok (.tup [.str wd, d]) S' else .bad
  | .bad => .bad else .bad
section
variable {K : PySem.W.Frag} {m B : List Addr} {H H1 : Hp} {S : Sto}
theorem RO.nt {a : Addr} {o : O} (h : RO K m B H a o) (ho : ∀ P q, o ≠ .tab P q) : ∃ u, H a = some u ∧ NX u := by
  cases o with
  | lst ds => obtain ⟨vs, e, _⟩ := h; exact ⟨_, e, fun ps e => (by cases e), fun f e => (by cases e)⟩
  | ins C fs => obtain ⟨dx, vs, e, _⟩ := h; exact ⟨_, e, fun ps e => (by cases e), fun f e => (by cases e)⟩
  | dct kvs => obtain ⟨vs, e, _⟩ := h; exact ⟨_, e, fun ps e => (by cases e), fun f e => (by cases e)⟩
  | dcT kvs => obtain ⟨vs, e, _⟩ := h; exact ⟨_, e, fun ps e => (by cases e), fun f e => (by cases e)⟩
  | iset p n => exact ⟨_, h, fun ps e => (by cases e), fun f e => (by cases e)⟩
  | tab P q => exact absurd rfl (ho P q)
theorem RS.tabs {P : Addr} {q : Str} (r : RS K m B H S) (hS : isTab S = some (P, q)) : TabS H P q := by
  obtain ⟨a, ha, e0, ps, e, ok, k⟩ := r.at (isTab_at hS)
  refine ⟨ps, e, ok, fun pos cv hc => ?_⟩
  obtain ⟨c, e1, _, _, e4⟩ := k pos cv hc
  exact ⟨c, e1, e4⟩
theorem RS.lam {P : Addr} {q : Str} (r : RS K m B H S) (hS : isTab S = some (P, q)) (x : ExtN H H1) (T : TabS H1 P q) : Ge m H m H1 ∧ RS K m B H1 S := by
  have g : Ge m H m H1 := ⟨⟨[], by simp⟩, fun b o hb e nt => ⟨hb, x b o e nt⟩⟩
  refine ⟨g, r.len, r.nd, r.dis, fun b hb => ?_, fun n a o h1 h2 => ?_, r.tb⟩
  · obtain ⟨u, e, nx⟩ := r.bn b hb
    exact ⟨u, x b u e nx.1, nx⟩
  · have q0 := r.ob n a o h1 h2
    by_cases ho : ∀ P q, o ≠ .tab P q
    · obtain ⟨u, e, nx⟩ := q0.nt ho
      exact q0.mono g.tr (by rw [e]; exact x a u e nx.1)
    · have ho : ∃ P q, o = .tab P q := Classical.byContradiction fun z => ho fun P q e => z ⟨P, q, e⟩
      obtain ⟨P', q', rfl⟩ := ho
      have n0 := r.tb n P' q' h2
      subst n0
      rw [isTab_at hS] at h2
      cases h2
      obtain ⟨e0, _⟩ := q0
      obtain ⟨ps, t1, t2, t3⟩ := T
      refine ⟨e0, ps, t1, t2, fun pos cv hc => ?_⟩
      obtain ⟨c, e1, e2⟩ := t3 pos cv hc
      refine ⟨c, e1, fun z => ?_, fun z => ?_, e2⟩
      · obtain ⟨i, hi⟩ := List.mem_iff_getElem?.mp z
        have hl : i < S.length := by rw [← r.len]; exact (List.getElem?_eq_some_iff.mp hi).1
        have qi := r.ob i c S[i] hi (by simp [hl])
        by_cases hi0 : ∀ P q, S[i] ≠ .tab P q
        · obtain ⟨u, e, nx⟩ := qi.nt hi0
          have := x c u e nx.1
          rw [e2] at this
          exact nx.2 _ (Option.some.inj this).symm
        · have hi0 : ∃ P q, S[i] = .tab P q := Classical.byContradiction fun z => hi0 fun P q e => z ⟨P, q, e⟩
          obtain ⟨P2, q2, e3⟩ := hi0
          have i0 := r.tb i P2 q2 (by simp [hl, e3])
          subst i0
          rw [h1] at hi
          cases hi
          rw [e0, t1] at e2
          exact codeO_ne ps (Option.some.inj e2).symm
      · obtain ⟨u, e, nx⟩ := r.bn c z
        have := x c u e nx.1
        rw [e2] at this
        exact nx.2 _ (Option.some.inj this).symm
end
theorem takes_len {X : Cx} {W : WX} (tk : Takes X W) : Takes X fun c d σ H => σ.length = X.N.length → W c d σ H := fun u s' ⟨a, B, sI, pins, σ, H, cls, d, e, I, nb, up, sky, na, os, ag, w⟩ =>
  tk u s' ⟨a, B, sI, pins, σ, H, cls, d, e, I, nb, up, sky, na, os, ag, w I.len⟩
/-- what the def makes of the lambda's reading -/
def TTr (K : PySem.W.Frag) (mt : Addr → Option Bool) (cs : List Addr) (wd : Str) : (XK → Hp → VK → Prop) → Hp → VK → Prop := fun tl H Q =>
  tl (fun cls dd H' => ∃ m B S C x va de, RS K m B H' S ∧ cls = .ref C ∧ dd = some x ∧ H' x = some (.xd [("at", va)]) ∧ RD K m B H' de va ∧ mt C = some true ∧ C ∈ cs ∧
    Post K m B H' (fun _ _ _ => False) (fun d _ m' H'' => ∀ v, RD K m' B H'' d v → Q v H'') (.ok (.tup [.str wd, de]) S)) H fun _ H' => Q .non H'
theorem res2 {K : PySem.W.Frag} {m B : List Addr} {H : Hp} : ∀ {σ : L2.St}, σ.length = 2 → REs K m B H [none, none] σ
  | [x, y], _ => ⟨x, [y], rfl, fun d e => (nomatch e), y, [], rfl, fun d e => (nomatch e), rfl⟩
section
variable {X : Cx} {x a n y q wd : Str} {sg : Scope} {g CS : Addr} {cdg : Value} {mt : Addr → Option Bool} {cs : List Addr} {j2 : Nat} {re : Expr} {p1 p2 p3 p4 p9 p10 p11 p12 p13 : Pos}
theorem ref_gives (hn : [a, n].Nodup) (hgy : sg.names.lookup y = some .globalImplicit) (hdy : (y == ("__debug__" : Str)) = false) (hm : X.mg y = some (.ref CS)) (hmt : ∀ C b, mt C = some b → PySem.W.exmOne X.K (.ref C) (.ref CS) = some b) (hln : sg.names.lookup n = some .local)
    (hs : ∀ (cdg : Value) (A : Around) (outer : List PySem.Env) (s : Shared) (H : Hp), ZX (cxOf C8.CX0 X.prog X.w X.K X.mg X.base [a, n] x sg g cdg A outer s H C8.E0).nox 1 re fun C d => eTup (aC (eC (.str wd)) (aC (xAt cs C d) aN))) :
    GivesTo X [a, n] x sg g cdg [.Try [.Expr (.Call (.Name a p1) [] [] p2) p3] [.ExceptHandler (some (.Name y p4)) (some n) [.Return (some re) p9] p10] [] [] p11, .Return (some (.Constant .none j2 p12)) p13] a q (TTr X.K mt cs wd) := by
  intro f c' s H Q tl act hc h
  let Y := (cxOf C8.CX0 X.prog X.w X.K X.mg X.base [a, n] x sg g cdg X.A X.stack s H C8.E0).nox
  have hgl : Gl Y y := hgy
  refine ⟨_, pss_cons (ps_try_as (X := Y) (c := .ref CS) (i := 1) (tb := fun W D σ H => ∃ Ech : XK, (∀ cls d σ' H', Ech cls d H' → σ'.length = 2 → W cls d σ' H') ∧ σ[0]? = some (some (.ref f)) ∧ H c' = some (CodeO c' q) ∧ tl Ech H (fun _ H' => D.nx σ H'))
      (ts := tSu Y.K 1 fun C d => eTup (aC (eC (.str wd)) (aC (xAt cs C d) aN))) (Wout := fun _ _ _ _ => False) rfl rfl hn rfl hln ⟨hgl, hdy,   .inl hm⟩ L2.takes0 (fun W pn xe tk _ => ?_) fun aE oe cls d pn hz hf => pss_one (ps_weak (ps_ret (hs cdg X.A X.stack s H aE oe cls d pn hz hf)) fun E σ H h => h)) (pss_one (ps_ret pe_non)), ?_⟩
  · refine ⟨fun pins s' σ H' D I h' => ?_⟩
    obtain ⟨Ech, hW, h1, h2, h3⟩ := h'
    have hp := act (fun c d σ H => σ.length = 2 → W c d σ H) pn xe Ech p1 p2 (takes_len tk) hW
    have hq := pss_one (ps_expr (pos := p3) hp)
    exact hq.run pins s' σ H' D I ⟨h1, h2, h3⟩
  · refine ⟨_, fun cls d σ' H' hE hl => ?_, rfl, hc, h⟩
    obtain ⟨m, B, S, C, xx, va, de, rs, rfl, rfl, hx, rd, hmC, hC, p⟩ := hE
    refine ⟨true, hmt C true hmC, fun _ aE ha => ?_, fun e => (by cases e)⟩
    have e1 : eTup (aC (eC (.str wd)) (aC (xAt cs C de) aN)) [none, none] S = .ok (.tup [.str wd, de]) S := by simp [eTup, aC, aN, eC, xAt, hC]
    exact ⟨m, B, [none, none], S, C, xx, va, de, rs, res2 (by simpa using hl), by simp [hl], rfl, rfl, hx, rd, by
      show Post _ _ _ _ _ _ (eTup (aC (eC (.str wd)) (aC (xAt cs C de) aN)) [none, none] S)
      rw [e1]
      exact p⟩
/-- f(lambda: body), f a def that calls it and catches -/
theorem ze_ref {k : Nat} {P c : Addr} {pg : Arguments} {fd : FuncData} {params : Arguments} {body : Expr} {scope : Scope} {de : DE} {p lpos pos : Pos} (fdd : FunD X.K x x pg [.Try [.Expr (.Call (.Name a p1) [] [] p2) p3] [.ExceptHandler (some (.Name y p4)) (some n) [.Return (some re) p9] p10] [] [] p11, .Return (some (.Constant .none j2 p12)) p13] sg [] [] g fd)
    (hb : ∀ (kV doc pm : Value) (an : Option Addr) (cdv ct : Value) (us : List Value), us.length = [a].length → bindArgs (PySem.W.fnOf x x pg [.Try [.Expr (.Call (.Name a p1) [] [] p2) p3] [.ExceptHandler (some (.Name y p4)) (some n) [.Return (some re) p9] p10] [] [] p11, .Return (some (.Constant .none j2 p12)) p13] sg .none kV doc pm an cdv ct) ⟨us, []⟩ = pure ([a].zip us))
    (hg : Gl X x) (hmg : X.mg x = some (.ref g)) (Sg : FnScope [a, n] [a] sg) (hva : Vis sg a) (hgy : sg.names.lookup y = some .globalImplicit) (hdy : (y == ("__debug__" : Str)) = false) (hm : X.mg y = some (.ref CS)) (hmt : ∀ C b, mt C = some b → PySem.W.exmOne X.K (.ref C) (.ref CS) = some b) (hln : sg.names.lookup n = some .local)
    (hs : ∀ (cdg : Value) (A : Around) (outer : List PySem.Env) (s : Shared) (H : Hp), ZX (cxOf C8.CX0 X.prog X.w X.K X.mg X.base [a, n] x sg g cdg A outer s H C8.E0).nox 1 re fun C d => eTup (aC (eC (.str wd)) (aC (xAt cs C d) aN)))
    (TB : TabB X.base X.mg c P) (hcode : X.env.code = .ref c) (hq : X.env.qual ++ "<lambda>" = q) (hr : Room (k + 2) X.A) (L : LamS X.env.scope scope) (hdef : defaultsOf params X.env = ([], []))
    (hbind : ∀ (q : Str) (cl : List (Str × Addr)) (pm cv ctv : Value), bindArgs (PySem.W.kla_fn "<lambda>" q params body scope cl pm cv ctv) ⟨[], []⟩ = pure [])
    (hbody : ∀ (A : Around) (outer : List PySem.Env) (s : Shared) (H : Hp) (E : XK) (f c' : Addr), Room k (A.deeper (lamEnv X scope s.heap.objs.size f c')) → ZE (lamCx X A outer s H E scope f c') body de)
    (hdb : (x == ("__debug__" : Str)) = false := by decide) (hd : (a == ("__debug__" : Str)) = false := by decide) (hcd : (a == ("__classdict__" : Str)) = false := by decide) :
    ZE X (.Call (.Name x p) [.Lambda params body scope lpos] [] pos) (eRef P q mt cs wd de) := fun W tk => by
  have hBd := fdd.bindsN hb
  obtain ⟨oc, od, dV, kV, doc, pm, an, cdv, ct, osl, rfl, lk, hcg, _, _⟩ := fdd.ex
  refine pe_weak (pe_lamcall (T := [(P, X.env.qual ++ "<lambda>")]) (TT := TTr X.K mt cs wd) (t := fun E => tE (fun c x _ H => E c x H) X.K de) hg hmg fdd.kp lk hcg hBd Sg rfl hva (ref_gives Sg.nd hgy hdy hm hmt hln hs) TB hcode (List.mem_cons_self ..) (fun p hp _ => by
    rw [List.mem_singleton.mp hp]) hr L hdef hbind (fun A outer s H E f c' hr' => hbody A outer s H E f c' hr' _ (takes_of rfl rfl rfl rfl)) hdb hd hcd) fun σ H Q ⟨m, B, ρ, S, rs, e, p⟩ => ?_
  unfold eRef at p
  split at p
  case isFalse => exact p.elim
  rename_i hS
  refine ⟨fun z hz => ?_, fun H1 x1 T1 => ?_⟩
  · rw [List.mem_singleton.mp hz]
    show TabS H P (X.env.qual ++ "<lambda>")
    rw [hq]
    exact rs.tabs hS
  · have t1 : TabS H1 P (X.env.qual ++ "<lambda>") := T1 _ (List.mem_cons_self ..)
    rw [hq] at t1
    obtain ⟨g1, r1⟩ := rs.lam hS x1 t1
    refine ⟨m, B, ρ, S, r1, e.mono g1.tr, ?_⟩
    cases hd : de ρ S with
    | ok d S' =>
      rw [hd] at p
      exact fun m' H' g' r' v _ => p m' H' (g1.trans g') r' .non RDn
    | exc C d S' =>
      rw [hd] at p
      simp only at p
      split at p
      case isFalse => exact p.elim
      rename_i hc
      exact fun m' H' xx v g' r' hx rv => ⟨m', B, S', C, xx, v, d, r', rfl, rfl, hx, rv, hc.1, hc.2, fun m'' H'' g'' r'' u ru => p m'' H'' ((g1.trans g').trans g'') r'' u ru⟩
    | bad => rw [hd] at p; exact p
end
end Z
namespace Z
open PySem PySem.Spec PyProof.Rows L2 LamX
/-! ### the end of a law that makes lambdas: its table stands first in the store -/
theorem sp_scrT (K : PySem.W.Frag) {F : List D → Sto → R D} (P : Addr) (q : Str) (H : Hp) (a : Addr) (ns : List Int) (hP : H P = some (.tbl #[])) (hS : SqL K H a (ns.map V.int)) (hl : ∃ S, F [.scr (scrD ns)] [.tab P q] = .ok (.bl true) S) : spI K 1 F [.ref a] H (fun v _ => v = .bl true) fun _ _ _ => False := by
  obtain ⟨S, hl⟩ := hl
  refine ⟨[P], [], [.scr (scrD ns)], [.tab P q], ⟨rfl, by simp, fun a h => by simp, fun b h => absurd h (by simp), fun n a o h1 h2 => ?_, fun n P' q' h => ?_⟩, ?_, rfl, ?_⟩
  · cases n with
    | succ n => simp at h1
    | zero =>
      cases h1
      cases h2
      refine ⟨rfl, #[], hP, True.intro, fun pos cv hc => ?_⟩
      have z : codeAmong pos [] = some cv := hc
      simp [codeAmong] at z
  · cases n with
    | succ n => simp at h
    | zero => rfl
  · refine RDs.cons ?_ RDs.nil
    unfold RD
    refine ⟨a, ns.map V.int, rfl, ?_, ?_⟩
    · rcases hS with h | h
      · refine .inl ⟨fun z => ?_, by simp, h⟩
        have e : a = P := by simpa using z
        rw [e] at h
        rcases h with h | ⟨o, h⟩
        · rw [hP] at h
          cases h
        · rw [hP] at h
          cases h
      · exact .inr h
    · clear hl hS
      induction ns with
      | nil => exact RDs.nil
      | cons n ns ih => exact RDs.cons (RDi n) ih
  · rw [hl]
    intro m' H' g r v rv
    unfold RD at rv
    exact rv
/-- the code object of the def at fa, and its table -/
def codT (K : PySem.W.Frag) (fa : Addr) : Option (Addr × Addr) := match K.lookup fa with
  | some ⟨_, _, .func fd, _⟩ => match fd.code with
    | .ref c => match K.lookup c with
      | some ⟨.type T, _, .fields vs, _⟩ => match (vs[11]? : Option Value), (vs.getD 18 .none : Value), (vs.getD 7 .none : Value), (vs.getD 9 .none : Value), (vs.getD 10 .none : Value) with
        | some (Value.ref P), Value.str _ _, Value.int _ _, Value.bool _, Value.int _ _ => if T = "code" ∧ c ≠ P ∧ (K.lookup P).isNone = true then some (c, P) else none
        | _, _, _, _, _ => none
      | _ => none
    | _ => none
  | _ => none
theorem codT_ok {K : PySem.W.Frag} {fa c P : Addr} {h : Heap} (e : codT K fa = some (c, P)) (KX : K.In h) (ot : OwnTab K fa h) : h.get? P = some { cls := .none, data := .fields #[] } ∧ K.lookup P = none ∧ PySem.W.CodeHd h c P := by
  unfold codT at e
  split at e
  case h_2 => cases e
  rename_i e0 d0 fd s0 h0
  split at e
  case h_2 => cases e
  rename_i c1 h1
  split at e
  case h_2 => cases e
  rename_i T dd vs sl h2
  split at e
  case h_2 => cases e
  rename_i P1 z1 t1 z2 t2 z3 z4 t4 h3 h4 h5 h6 h7
  split at e
  case isFalse => cases e
  rename_i hc
  cases e
  obtain ⟨hT, hne, hn⟩ := hc
  subst hT
  refine ⟨ot c P _ fd _ dd vs sl h0 rfl h1 h2 h3, Option.isNone_iff_eq_none.mp hn, _, vs, _, _, _, _, _, _, _, KX _ _ h2, rfl, rfl, h3, ?_, h4, h5, h6, h7, hne⟩
  simp [Array.getD_eq_getD_getElem?, h3]
theorem codT_code {K : PySem.W.Frag} {x qual : Str} {params : Arguments} {body : List Stmt} {scope : Scope} {dvs : List V} {kws : List (Str × V)} {fa c P : Addr} {fd : FuncData} (e : codT K fa = some (c, P)) (F : FunD K x qual params body scope dvs kws fa fd) : fd.code = .ref c := by
  obtain ⟨oc, od, dV, kV, doc, pm, an, cdv, ct, osl, _, lk, _⟩ := F.ex
  unfold codT at e
  rw [lk] at e
  simp only at e
  split at e
  case h_2 => cases e
  rename_i c1 h1
  rw [h1]
  split at e
  case h_2 => cases e
  split at e
  case h_2 => cases e
  split at e
  case isFalse => cases e
  cases e
  rfl
theorem walk_ZT {l : PySem.W.OpenLaw} {k : Nat} {q : Program} {loose : List Str} {XP : (Str → Option Value) → Heap → Prop} {YP : World → Heap → Prop} {d : DefRec} {K : Params → PySem.W.Frag} {F : PySem.W.Frag → List D → Sto → R D} {tb : PySem.W.Frag → Addr × Addr} {tq : Str}
    (hn : l.most = some 63) (hdf : d.params.defaults = []) (hr : Room k callerA) (hrec : ((recsOf q).any fun e => e.name == d.name) = true) (hY : ∀ (w : World) (h : Heap), YP w h → (K w.params).In h)
    (hF : ∀ (w : World) (mg : Str → Option Value) (fa : Addr) (h : Heap), (K w.params).In h → h.Ns mainGlobals mg → mg d.name = some (.ref fa) → codT (K w.params) fa = some (tb (K w.params)) ∧
      ∃ fd : FuncData, (∀ (s : Shared) (u : Value), BindsTo s fd ⟨[u], []⟩ [("script", u)]) ∧ ∀ base : Heap, (K w.params).In base → base.Ns mainGlobals mg → TabB base mg (tb (K w.params)).1 (tb (K w.params)).2 → FnOk l.prog w (K w.params) mg base (L2.CX l.prog w) k fa fd ["script"] (spI (K w.params) 1 (F (K w.params))))
    (hl : ∀ (K : PySem.W.Frag) (ns : List Int), ns.length ≤ 63 → ∃ S, F K [.scr (scrD ns)] [.tab (tb K).2 tq] = .ok (.bl true) S) : PySem.W.WalkO q loose XP YP l.row.toRowW d [] (fun f vs => PySem.call f vs) := by
  refine walk_ofOwn (l := l) (n := 63) (k := k) (K := K) (x := "script") (CX := fun w => L2.CX l.prog w) hn (by decide) hdf hr hrec hY (fun w mg fa h Y KX G hm own => ?_) fun w H s e s' h => by
    obtain ⟨_, _, _, _, _, _, _, _, _, _, _, _, h⟩ := h
    exact h
  obtain ⟨hc, fd, hb, hf⟩ := hF w mg fa h KX G hm
  obtain ⟨c1, c2, c3⟩ := codT_ok hc KX own
  refine ⟨fd, [tb (K w.params)], spI (K w.params) 1 (F (K w.params)), fun p hp => ?_, fun p hp => ?_, fun p hp => ?_, hb, fun H a ns h1 _ hT hS => ?_, fun base KB GB TB => hf base KB GB (TB _ (List.mem_cons_self ..))⟩
  · rw [List.mem_singleton.mp hp]; exact c1
  · rw [List.mem_singleton.mp hp]; exact c2
  · rw [List.mem_singleton.mp hp]; exact c3
  · exact sp_scrT _ _ tq H a ns (hT _ (List.mem_cons_self ..)) hS (hl _ ns h1)
section
variable {P : Program} {w : World} {K : PySem.W.Frag} {mg : Str → Option Value} {base : Heap} {x qual : Str} {params : Arguments} {body : List Stmt} {scope : Scope} {dvs : List V} {kws : List (Str × V)} {f : Addr} {fd : FuncData}
theorem zfnC {N ps : List Str} {k n : Nat} {den : DS} {F : List D → Sto → R D} (c : Addr) (hc : fd.code = .ref c) (fdd : FunD K x qual params body scope dvs kws f fd) (S : FnScope N ps scope) (hn : ps.length = n)
    (hb : ∀ (A : Around) (outer : List PySem.Env) (s : Shared) (H : Hp) (E : XK), Good (cxOf (L2.CX P w) P w K mg base N qual scope f (.ref c) A outer s H E) k → ZB (cxOf (L2.CX P w) P w K mg base N qual scope f (.ref c) A outer s H E) body den)
    (imp : ∀ ds S, ds.length = n → ClS S.length S → D.cls S.length ds → Ref S (F ds S) (runB N.length den ds S)) : FnOk P w K mg base (L2.CX P w) (k + 1) f fd ps (spI K n F) := by
  obtain ⟨oc, od, dV, kV, doc, pm, an, cdv, ct, osl, rfl, lk, hcd, _, _⟩ := fdd.ex
  obtain rfl : cdv = .ref c := hc
  refine fn_of lk hcd S (fun vs H Q E h => by rw [hn]; exact spI_len h) fun A outer s H vs Q E hr h => ?_
  obtain ⟨m, B, ds, S', rs, rd, hl, p⟩ := h
  refine ⟨_, hb A outer s H E ⟨hr, rfl, passes_of rfl⟩ (fun c x _ H' => E c x H') (takes_of rfl rfl rfl rfl), ?_⟩
  refine tS_run rs rd ((imp ds S' hl rs.cl ?_).post rs p)
  rw [← rs.len]
  exact RDs.cls rd
end
end Z
namespace Z
open PySem PySem.Spec PyProof.Rows L2
section
variable {X : Cx} {pos p0 p1 p2 apos : Pos} {a b e o : Expr} {da db dobj : DE} {t : DA}
/-! ### x is True | False -/
def fIsC : D → D → Sto → R D
  | .bl a, .bl b, S => .ok (.bl (decide (a = b))) S
  | .non, .bl _, S => .ok (.bl false) S
  | .int _, .bl _, S => .ok (.bl false) S
  | .str _, .bl _, S => .ok (.bl false) S
  | .tup _, .bl _, S => .ok (.bl false) S
  | .lst _, .bl _, S => .ok (.bl false) S
  | .scr _, .bl _, S => .ok (.bl false) S
  | .ref _, .bl _, S => .ok (.bl false) S
  | _, _, _ => .bad
def rIsC : R2 := fun x y H Q => ∃ b : Bool, y = .bl b ∧ ((∃ a : Bool, x = .bl a ∧ Q (.bl (decide (a = b))) H) ∨ ((x = .non ∨ (∃ i, x = .int i) ∨ (∃ s, x = .str s) ∨ ∃ r, x = .ref r) ∧ Q (.bl false) H))
theorem op_isC : OpR X (compareOp .Is) rIsC := by
  intro pins s σ H x y v u Q I rx ry h
  obtain ⟨b, rfl, h⟩ := h
  cases (show u = Value.bool b from ry)
  rcases h with ⟨a, rfl, q⟩ | ⟨rfl | ⟨i, rfl⟩ | ⟨i, rfl⟩ | ⟨i, rfl⟩, q⟩
  · cases (show v = Value.bool a from rx)
    by_cases e : a = b
    · subst e
      exact wpAny_is_self rfl ⟨.bl true, H, I, rfl, by simpa using q⟩
    · exact wpAny_is_other rfl (fun z => e (Value.bool.inj z)) ⟨.bl false, H, I, rfl, by simpa [e] using q⟩
  · cases (show v = Value.none from rx)
    exact wpAny_is_other rfl (fun z => by cases z) ⟨.bl false, H, I, rfl, q⟩
  · obtain ⟨t, ht⟩ : ∃ t, v = Value.int i t := rx
    subst ht
    exact wpAny_is_other rfl (fun z => by cases z) ⟨.bl false, H, I, rfl, q⟩
  · obtain ⟨t, ht⟩ : ∃ t, v = Value.str i t := rx
    subst ht
    exact wpAny_is_other rfl (fun z => by cases z) ⟨.bl false, H, I, rfl, q⟩
  · cases (show v = Value.ref i from rx)
    exact wpAny_is_other rfl (fun z => by cases z) ⟨.bl false, H, I, rfl, q⟩
theorem okIsC {K : PySem.W.Frag} : OkOp K rIsC fIsC := by
  intro m B H S d e x y W Q rs rd re p
  cases e with
  | bl b =>
    unfold RD at re
    subst re
    cases d with
    | bl c =>
      unfold RD at rd
      subst rd
      exact ⟨b, rfl, .inl ⟨c, rfl, p.now rs _ (RDb _)⟩⟩
    | non =>
      unfold RD at rd
      subst rd
      exact ⟨b, rfl, .inr ⟨.inl rfl, p.now rs _ (RDb _)⟩⟩
    | int i =>
      unfold RD at rd
      subst rd
      exact ⟨b, rfl, .inr ⟨.inr (.inl ⟨i, rfl⟩), p.now rs _ (RDb _)⟩⟩
    | str i =>
      unfold RD at rd
      subst rd
      exact ⟨b, rfl, .inr ⟨.inr (.inr (.inl ⟨i, rfl⟩)), p.now rs _ (RDb _)⟩⟩
    | tup ds =>
      unfold RD at rd
      obtain ⟨r, vs, rfl, _⟩ := rd
      exact ⟨b, rfl, .inr ⟨.inr (.inr (.inr ⟨r, rfl⟩)), p.now rs _ (RDb _)⟩⟩
    | lst ds =>
      unfold RD at rd
      obtain ⟨r, vs, rfl, _⟩ := rd
      exact ⟨b, rfl, .inr ⟨.inr (.inr (.inr ⟨r, rfl⟩)), p.now rs _ (RDb _)⟩⟩
    | scr ds =>
      unfold RD at rd
      obtain ⟨r, vs, rfl, _⟩ := rd
      exact ⟨b, rfl, .inr ⟨.inr (.inr (.inr ⟨r, rfl⟩)), p.now rs _ (RDb _)⟩⟩
    | ref n =>
      unfold RD at rd
      obtain ⟨r, rfl, _⟩ := rd
      exact ⟨b, rfl, .inr ⟨.inr (.inr (.inr ⟨r, rfl⟩)), p.now rs _ (RDb _)⟩⟩
    | adr _ => exact p.elim
    | ty _ => exact p.elim
  | _ => cases d <;> exact p.elim
theorem ze_isC (ha : ZE X a da) (hb : ZE X b db) : ZE X (.Compare a [.Is] [b] pos) (e2 fIsC da db) := ze_cmp op_isC okIsC ha hb (nomark _)
theorem zt_isC (ha : ZE X a da) (hb : ZE X b db) : ZT X (.Compare a [.Is] [b] pos) (tVB (e2 fIsC da db)) := zt_cmp op_isC okIsC ha hb (nomark _)
/-! ### x in a tuple of whole numbers -/
def fInA (neg : Bool) : D → D → Sto → R D
  | .int i, .tup ds, S => match intsD ds with
    | some ns => .ok (.bl (if neg = true then !decide (i ∈ ns) else decide (i ∈ ns))) S
    | none => .bad
  | d, e, S => if neg = true then fNotIn d e S else fIn d e S
theorem inV_ints (i : Int) : ∀ ns : List Int, inV (.int i) (ns.map V.int) = decide (i ∈ ns)
  | [] => rfl
  | n :: ns => by
    have ih := inV_ints i ns
    unfold inV at ih ⊢
    rw [List.map_cons, List.any_cons, ih]
    have e : eqV (.int n) (.int i) = decide (n = i) := by
      show (n == i) = _
      by_cases h : n = i <;> simp [h]
    rw [e, Bool.eq_iff_iff]
    simp only [Bool.or_eq_true, decide_eq_true_eq, List.mem_cons]
    constructor
    · rintro (h | h)
      · exact .inl h.symm
      · exact .inr h
    · rintro (h | h)
      · exact .inl h.symm
      · exact .inr h
theorem flat_ints : ∀ ns : List Int, (ns.map V.int).all flatV = true
  | [] => rfl
  | n :: ns => by
    rw [List.map_cons, List.all_cons, flat_ints ns]
    rfl
def rInA (K : PySem.W.Frag) : R2 := fun x y H Q => rInD K x y H Q ∨ rIn K false x y H Q
theorem okInA {K : PySem.W.Frag} : OkOp K (rInA K) (fInA false) := by
  intro m B H S d e x y W Q rs rd re p
  have gen : Post K m B H W (fun d _ m' H' => ∀ v, RD K m' B H' d v → Q v H') (fIn d e S) → rInA K x y H Q := fun p => .inl (okIn m B H S d e x y W Q rs rd re p)
  cases d with
  | int i =>
    cases e with
    | tup ds =>
      simp only [fInA] at p
      split at p
      · rename_i ns hn
        unfold RD at rd re
        subst rd
        obtain ⟨r, vs, rfl, f, rv⟩ := re
        rw [intsD_ok rv hn] at f
        refine .inr ⟨r, _, rfl, .inr f.sq, rfl, flat_ints ns, ?_⟩
        simp only [inV_ints]
        exact p.now rs _ (RDb _)
      · exact p.elim
    | _ => exact gen p
  | _ => exact gen p
theorem ze_inA (hu : X.A.units + 65 < cLine) (ha : ZE X a da) (hb : ZE X b db) (hm : behindInMarks .In b = false := by rfl) : ZE X (.Compare a [.In] [b] pos) (e2 (fInA false) da db) := ze_cmp ((op_inD hu).or op_in_seq) okInA ha hb hm
theorem zt_inA (hu : X.A.units + 65 < cLine) (ha : ZE X a da) (hb : ZE X b db) (hm : behindInMarks .In b = false := by rfl) : ZT X (.Compare a [.In] [b] pos) (tVB (e2 (fInA false) da db)) := zt_cmp ((op_inD hu).or op_in_seq) okInA ha hb hm
/-! ### a list so many times -/
def gRep (S : Sto) (x y : D) : R (List D) := match lstH S x, y with
  | some xs, .int k => if 0 ≤ k ∧ k ≤ 1000 ∧ xs.length ≤ 1000 then .ok (List.replicate k.toNat xs).flatten S else .bad
  | _, _ => .bad
def lRep (a b : DE) : DA := fun ρ S => (a ρ S).bind fun x S1 => (b ρ S1).bind fun y S2 => gRep S2 x y
theorem zl_rep (ha : ZE X a da) (hb : ZE X b db) : ZL X (.BinOp a .Mult b pos) (lRep da db) := fun W tk => pe_weak (pe_op op_rep (ha W tk) (hb W tk)) fun σ H Q ⟨m, B, ρ, S, rs, e, p⟩ =>
  tE.takeL rs e p fun x S1 m1 H1 v g1 r1 e1 rx p1 => tE.takeL r1 e1 p1 fun y S2 m2 H2 u g2 r2 e2 ry p2 => by
    unfold gRep at p2
    split at p2
    · rename_i xs k h1
      split at p2
      · rename_i hl
        obtain ⟨a1, vs, rfl, q1, w1⟩ := lstH_ok r2 (rx.mono g2.tr) h1
        unfold RD at ry
        subst ry
        have b0 : vs.length * k.toNat ≤ 1000 * 1000 := Nat.mul_le_mul (by rw [← w1.len]; exact hl.2.2) (by omega)
        exact ⟨a1, k, vs, rfl, rfl, q1, by omega, by omega, by rw [sizeLine_eq]; omega, fun p hp => p2.put r2 (w1.rep k.toNat) hp⟩
      · exact p2.elim
    · exact p2.elim
/-! ### list(range(n)) -/
def gRange (S : Sto) : D → R (List D)
  | .int n => if 0 ≤ n ∧ n ≤ 16777216 then .ok (iRow 0 n.toNat) S else .bad
  | _ => .bad
def lRange (a : DE) : DA := fun ρ S => (a ρ S).bind fun d S1 => gRange S1 d
theorem rds_range {K : PySem.W.Frag} {m B : List Addr} {H : Hp} (n : Int) : RDs K m B H (iRow 0 n.toNat) (rgV 0 n) := by
  have e : rgV 0 n = ((List.range n.toNat).map fun i : Nat => (i : Int)).map V.int := by
    unfold rgV
    rw [List.map_map]
    have : (n - 0).toNat = n.toNat := by omega
    rw [this]
    apply List.map_congr_left
    intro i _
    simp
  have e2 : iRow 0 n.toNat = ((List.range n.toNat).map fun i : Nat => (i : Int)).map D.int := by
    rw [iRow_map0, List.map_map]
    rfl
  rw [e, e2]
  exact ints_rd _
theorem zl_range (hc : X.calm = true) (hm : X.mg "list" = none) (hmr : X.mg "range" = none) (ha : ZE X a da) (hg : Gl X "list" := by rfl) (hgr : Gl X "range" := by rfl) (na : starEach [a] X.env = (false, eval a X.env) :: starEach [] X.env := by rfl)
    (nb : starEach [.Call (.Name "range" p1) [a] [] p2] X.env = (false, eval (.Call (.Name "range" p1) [a] [] p2) X.env) :: starEach [] X.env := by rfl) : ZL X (.Call (.Name "list" p0) [.Call (.Name "range" p1) [a] [] p2] [] pos) (lRange da) := fun W tk =>
  pe_weak (pe_listRg hc hg hm (prg_1 hgr hmr (ha W tk) na) nb) fun σ H Q ⟨m, B, ρ, S, rs, e, p⟩ => tE.takeL rs e p fun d S1 m1 H1 v g1 r1 e1 rd p1 => by
    unfold gRange at p1
    split at p1
    · rename_i n
      split at p1
      · rename_i hn
        unfold RD at rd
        subst rd
        exact ⟨n, rfl, RgOk.of_le (by omega) (by omega) (by omega) hn.1, fun q hq => p1.put r1 (rds_range n) hq⟩
      · exact p1.elim
    · exact p1.elim
/-! ### sorted(set(a tuple of whole numbers)) -/
def gSortSetT (S : Sto) : List D → R (List D)
  | [d] => match d with
    | .tup ds => if ds.length < 64 ∧ (intsD ds).isSome = true then .ok (usortK keyT ds) S else .bad
    | _ => .bad
  | _ => .bad
def lSortSetT (a : DA) : DA := fun ρ S => (a ρ S).bind fun ds S1 => gSortSetT S1 ds
def rSetT (K : PySem.W.Frag) (w : World) : List V → Hp → VK → Prop := fun xs H Q => ∃ (l : Addr) (ns : List Int), xs = [V.ref l] ∧ SqT K H l (ns.map V.int) ∧ ns.length < 64 ∧ ∀ a c, H a = none → c ≤ ns.length → Q (.ref a) (L2.upd H a (SetO w a (fun j => decide (j ∈ ns)) c))
theorem cr_setT (hc : X.calm = true) : CallR X (.type "set") (rSetT X.K X.w) := by
  intro pins s σ H xs us Q I r h
  obtain ⟨l, ns, rfl, hl, hf, q⟩ := h
  rw [Vals.ref1 r]
  obtain ⟨its, rv, pl, hz⟩ := I.tuple hl
  have hn : H s.heap.objs.size = none := I.hok.fresh (Nat.le_refl _)
  refine call_set_tupI (P := X.prog) (w := X.w) ns (I.ok.hd hc) pl (by simpa using rv.ints) (by unfold scanBound; omega) fun h' tk c R hle k => ?_
  exact ⟨.ref s.heap.objs.size, L2.upd H s.heap.objs.size (SetO X.w s.heap.objs.size (fun j => decide (j ∈ ns)) c), I.laid (t' := tk) k (Nat.le_refl _) (setO_new R), rfl, q _ c hn hle⟩
theorem zl_sortSetT (hc : X.calm = true) (hm : X.mg "sorted" = none) (hm2 : X.mg "set" = none) (ha : ZA X [e] t) (hg : Gl X "sorted" := by rfl) (hg2 : Gl X "set" := by rfl) (he : starEach [e] X.env = (false, eval e X.env) :: starEach [] X.env := by rfl)
    (he2 : starEach [.Call (.Name "set" p1) [e] [] p2] X.env = (false, eval (.Call (.Name "set" p1) [e] [] p2) X.env) :: starEach [] X.env := by rfl) : ZL X (.Call (.Name "sorted" p0) [.Call (.Name "set" p1) [e] [] p2] [] pos) (lSortSetT t) := fun W tk =>
  pe_weak (pe_callB (cr_sortedSet hc) hg hm (by decide +kernel) (pa_cons (pe_callTy (cr_setT hc) hg2 hm2 (by decide +kernel) (ha W tk) (by decide) (by decide) he (by rfl)) pa_nil he2) (by decide) (by decide) he2 (by rfl)) fun σ H Q ⟨m, B, ρ, S, rs, e, p⟩ => tAr.takeL rs e p fun ds S1 m1 H1 vs g1 r1 e1 rds p1 => by
    match ds, rds, p1 with
    | [], _, p1 => exact p1.elim
    | _ :: _ :: _, _, p1 => exact p1.elim
    | [d], rds, p1 =>
      cases d <;> try exact p1.elim
      rename_i ds
      obtain ⟨v, rfl, rv⟩ := rds.one
      simp only [gSortSetT] at p1
      split at p1
      case isFalse => exact p1.elim
      rename_i hk
      obtain ⟨h64, hi⟩ := hk
      obtain ⟨ns, hn⟩ := Option.isSome_iff_exists.mp hi
      have ed := intsD_len hn
      unfold RD at rv
      obtain ⟨r, us, rfl, f, ru⟩ := rv
      rw [intsD_ok ru hn] at f
      have hln : ns.length < 64 := by rw [ed, List.length_map] at h64; exact h64
      refine ⟨r, ns, rfl, f.sq, hln, fun b c hb hcn => ?_⟩
      refine ⟨b, _, c, rfl, upd_same, by omega, fun ks p hs hmem hlen hp => ?_⟩
      have eq : ks.map D.int = usortK keyT ds := by
        rw [ed]
        refine usortK_uniq (fun z => ?_) (List.pairwise_map.mpr hs) ints_inj
        constructor
        · intro hz
          obtain ⟨i, hi, rfl⟩ := List.mem_map.mp hz
          exact List.mem_map.mpr ⟨i, of_decide_eq_true ((hmem i).mp hi), rfl⟩
        · intro hz
          obtain ⟨i, hi, rfl⟩ := List.mem_map.mp hz
          exact List.mem_map.mpr ⟨i, (hmem i).mpr (decide_eq_true hi), rfl⟩
      rw [← eq] at p1
      obtain ⟨g2, r2⟩ := r1.new (u := SetO X.w b (fun j => decide (j ∈ ns)) c) hb
      exact PostL.put (p1.ge g2) r2 (ints_rd ks) hp
/-! ### a list that nobody changes: xs.index(y) -/
def isLv : D → Bool
  | .lst _ => true
  | _ => false
def eBV (f : D → List D → Sto → R D) (o : DE) (r : DA) : DE := fun ρ S => (o ρ S).bind fun d S1 => if isLv d = true then (r ρ S1).bind fun ds S2 => f d ds S2 else .bad
def findP (d : PyData) : List PyData → Nat → Option Nat
  | [], _ => none
  | z :: zs, j => if PyData.eqv z d = true then some j else findP d zs (j + 1)
theorem findP_ok {d : PyData} : ∀ {zs : List PyData} {j i : Nat}, findP d zs j = some i → ∃ k z, i = j + k ∧ zs[k]? = some z ∧ PyData.eqv z d = true ∧ ∀ m z', m < k → zs[m]? = some z' → PyData.eqv z' d = false
  | [], _, _, h => by cases h
  | z :: zs, j, i, h => by
    unfold findP at h
    split at h
    · rename_i he
      cases h
      exact ⟨0, z, rfl, rfl, he, fun m z' hm => by omega⟩
    · rename_i he
      obtain ⟨k, z2, h1, h2, h3, h4⟩ := findP_ok h
      refine ⟨k + 1, z2, by omega, h2, h3, fun m z' hm hz => ?_⟩
      cases m with
      | zero =>
        cases hz
        exact Bool.eq_false_iff.mpr he
      | succ m => exact h4 m z' (by omega) hz
def fIdx : D → List D → Sto → R D
  | .lst ds, [y], S => match toP S (.lst ds), toP S y with
    | some (.list qs), some q => if SeqAt.shaped (.list qs) = true ∧ SeqAt.shaped q = true then match findP q qs 0 with
        | some j => .ok (.int (j : Nat)) S
        | none => .bad
      else .bad
    | _, _ => .bad
  | _, _, _ => .bad
theorem okIdx {K : PySem.W.Frag} : OkM K (rIndexD K) fIdx := by
  intro m B H S d ds x vs W Q rs rd rds p
  cases d <;> try exact p.elim
  rename_i xs
  match ds, rds, p with
  | [], _, p => exact p.elim
  | _ :: _ :: _, _, p => exact p.elim
  | [y], rds, p =>
    obtain ⟨w, rfl, rw'⟩ := rds.one
    simp only [fIdx] at p
    split at p
    case h_2 => exact p.elim
    rename_i qs q h1 h2
    split at p
    case isFalse => exact p.elim
    rename_i hs
    split at p
    case h_2 => exact p.elim
    rename_i j hj
    obtain ⟨k, z, e1, e2, e3, e4⟩ := findP_ok hj
    have t1 := toP_ok rs rd h1
    have t2 := toP_ok rs rw' h2
    have rd' := rd
    unfold RD at rd'
    obtain ⟨a, us, rfl, _⟩ := rd'
    have ek : j = k := by omega
    subst ek
    exact ⟨a, w, q, qs, j, z, rfl, rfl, t1, t2, hs.1, hs.2, e2, e3, e4, p.now rs _ (RDi _)⟩
end
end Z
namespace Z
open PySem PySem.Spec PyProof.Rows L2
section
variable {X : Cx} {pos apos : Pos} {e o : Expr} {dobj : DE} {t : DA}
theorem isLv_ty {K : PySem.W.Frag} {m B : List Addr} {H : Hp} {S : Sto} {d : D} {v : V} (rs : RS K m B H S) (rd : RD K m B H d v) (h : isLv d = true) : tyV K "list" v H := by
  cases d <;> try (cases h; done)
  unfold RD at rd
  obtain ⟨a, vs, rfl, f, r⟩ := rd
  exact .inl ⟨rfl, vs, f.sq⟩
theorem ze_idx (hu : X.A.units + 65 < cLine) (ho : ZE X o dobj) (ha : ZA X [e] t) (hb : attributeBase o "index" X.env (eval o X.env) = eval o X.env := by rfl)
    (hfew : ((backTo pos (starEach [e] X.env)).all (fun x => !x.1) && (backToKw pos (keywordEach [] X.env)).all (fun x => x.1.isSome) && decide ([e].length + ([] : List Keyword).length + (if ([] : List Keyword).isEmpty then 0 else 1) < 30)) = true := by rfl)
    (hl : (apos.endLine == pos.line) = true := by rfl) (hs : starEach [e] X.env = (false, eval e X.env) :: starEach [] X.env := by rfl) : ZE X (.Call (.Attribute o "index" apos) [e] [] pos) (eBV fIdx dobj t) := fun W tk =>
  pe_weak (pe_bm PySem.F.plainAttrs_list PySem.F.slot_list_index PySem.F.type_list_index (mt_indexD hu) (ho W tk) (ha W tk) hb hfew hl hs (by rfl)) fun σ H Q ⟨m, B, ρ, S, rs, e, p⟩ => tE.takeA rs e p fun d S1 m1 H1 v g1 r1 e1 rd p1 => by
    split at p1
    · rename_i hL
      exact ⟨isLv_ty r1 rd hL, tAr.take r1 e1 p1 fun ds S2 m2 H2 vs g2 r2 e2 rds p2 => okIdx m2 B H2 S2 d ds v vs _ Q r2 (rd.mono g2.tr) rds p2⟩
    · exact p1.elim
end
end Z
namespace Z
open PySem PySem.Spec PyProof.Rows L2
theorem ktB {K : PySem.W.Frag} {x : Str} {vs : List He.Dv} (h : He.tupB K x vs = true) : KT K (He.ga K x) (vs.map (He.Dv.v K)) := by
  rcases He.tupB_ok h (fun _ => none) with (r | ⟨o, r⟩) | k
  · cases r
  · cases r
  · exact k
end Z
namespace Z.k64
open PySem L2 Z
def top (i : Nat) : Stmt := PySem.Challenge.pw_wholestrokes_k64_whole_disks_that_are_cu.main.body.getD i (.Pass ⟨0, 0, 0, 0⟩)
structure Ad where
  (CutDisk StrokesError Refused cod tab : Addr)
@[reducible] def Ad.cs (c : Ad) : List Addr := [c.CutDisk]
@[reducible] def Ad.es (c : Ad) : List Addr := [c.Refused]
def Ad.mt_StrokesError (c : Ad) (C : Addr) : Option Bool := if C = c.Refused then some true else none
def Ad.is_StrokesError (c : Ad) (C : Addr) : Option Bool := if C = c.Refused then some true else none
def Ad.mt_Refused (c : Ad) (C : Addr) : Option Bool := if C = c.Refused then some true else none
def Ad.is_Refused (c : Ad) (C : Addr) : Option Bool := if C = c.Refused then some true else none
def ad (K : PySem.W.Frag) : Ad := ⟨He.ga K "CutDisk", He.ga K "StrokesError", He.ga K "Refused", ((codT K (He.ga K "law")).getD (0, 0)).1, ((codT K (He.ga K "law")).getD (0, 0)).2⟩
def c_TORN : D := .tup [.str "torn"]
/-! is_integer -/
abbrev s_is_integer : Stmt := top 4
def dl_is_integer : List D := []
noncomputable def den_is_integer (c : Ad) : DS := (sRet (eAnd (eCall (fIsi c.cs) (aC (eV 0) (aC (eC (.ty "int")) aN))) (eNot (eCall (fIsi c.cs) (aC (eV 0) (aC (eC (.ty "bool")) aN))))))
noncomputable def F_is_integer (c : Ad) : List D → Sto → R D := runB 1 (den_is_integer c)
/-! is_number -/
abbrev s_is_number : Stmt := top 5
def dl_is_number : List D := [.non]
noncomputable def den_is_number (c : Ad) : DS := (sRet (eAnd (eFn 1 (F_is_integer c) (dl_is_integer.drop 0) (aC (eV 0) aN)) (eAnd (e2 fGe (eV 0) (eC (.int 0))) (eOr (e1 fIsN (eV 1)) (e2 fLe (eV 0) (eV 1))))))
noncomputable def F_is_number (c : Ad) : List D → Sto → R D := runB 2 (den_is_number c)
/-! is_ascending -/
abbrev s_is_ascending : Stmt := top 6
def dl_is_ascending : List D := []
noncomputable def den_is_ascending (c : Ad) : DS := (sRet (eCall fAll (aC (eLV (lLc (.nm 1) (iR2 (eC (.int 1)) (eCall fLen (aC (eV 0) aN))) tYes (e2 fLt (e2 fIx (eV 0) (e2 fSub (eV 1) (eC (.int 1)))) (e2 fIx (eV 0) (eV 1))) [1])) aN)))
noncomputable def F_is_ascending (c : Ad) : List D → Sto → R D := runB 2 (den_is_ascending c)
/-! is_lot -/
abbrev s_is_lot : Stmt := top 7
def dl_is_lot : List D := []
noncomputable def den_is_lot (c : Ad) : DS := (sRet (eAnd (eCall (fIsi c.cs) (aC (eV 0) (aC (eC (.ty "tuple")) aN))) (eAnd (eCall fAll (aC (eLV (lLc (.nm 1) (iSeq (eV 0)) tYes (eFn 2 (F_is_number c) (dl_is_number.drop 0) (aC (eV 1) aN)) [1])) aN)) (eFn 1 (F_is_ascending c) (dl_is_ascending.drop 0) (aC (eV 0) aN)))))
noncomputable def F_is_lot (c : Ad) : List D → Sto → R D := runB 2 (den_is_lot c)
/-! CutDisk.__init__ -/
abbrev s_CutDisk_mk : Stmt := inClass (top 11) 0
def dl_CutDisk_mk : List D := []
noncomputable def den_CutDisk_mk (c : Ad) : DS := (sSeq (sIf (tOr (tNot (tV (eFn 2 (F_is_number c) (dl_is_number.drop 1) (aC (eV 1) (aC (eC (.int 40)) aN))))) (tVB (e2 fLt (eV 1) (eC (.int 3))))) (sRaise c.Refused (eC (.str "slots"))) sNx)
  (sSeq (sAttr c.cs "cells" (eLN (lRep (eLV (aC (eC .non) aN)) (eV 1))) (eV 0))
  (sAttr c.cs "waiting" (eLN aN) (eV 0))))
noncomputable def F_CutDisk_mk (c : Ad) : List D → Sto → R D := runB 2 (den_CutDisk_mk c)
/-! CutDisk.size -/
abbrev s_CutDisk_size : Stmt := inClass (top 11) 1
def dl_CutDisk_size : List D := []
noncomputable def den_CutDisk_size (c : Ad) : DS := (sRet (eCall fLen (aC (eFld c.cs "cells" (eV 0)) aN)))
noncomputable def F_CutDisk_size (c : Ad) : List D → Sto → R D := runB 1 (den_CutDisk_size c)
/-! CutDisk.read -/
abbrev s_CutDisk_read : Stmt := inClass (top 11) 2
def dl_CutDisk_read : List D := []
noncomputable def den_CutDisk_read (c : Ad) : DS := (sRet (e2 fIx (eFld c.cs "cells" (eV 0)) (eV 1)))
noncomputable def F_CutDisk_read (c : Ad) : List D → Sto → R D := runB 2 (den_CutDisk_read c)
/-! CutDisk.put -/
abbrev s_CutDisk_put : Stmt := inClass (top 11) 3
def dl_CutDisk_put : List D := []
noncomputable def den_CutDisk_put (c : Ad) : DS := (sDrop (eBM fApp (eFld c.cs "waiting" (eV 0)) (aC (eTup (aC (eV 1) (aC (eV 2) aN))) aN)))
noncomputable def F_CutDisk_put (c : Ad) : List D → Sto → R D := runB 3 (den_CutDisk_put c)
/-! CutDisk.waits -/
abbrev s_CutDisk_waits : Stmt := inClass (top 11) 4
def dl_CutDisk_waits : List D := []
noncomputable def den_CutDisk_waits (c : Ad) : DS := (sRet (eCall fLen (aC (eFld c.cs "waiting" (eV 0)) aN)))
noncomputable def F_CutDisk_waits (c : Ad) : List D → Sto → R D := runB 1 (den_CutDisk_waits c)
/-! CutDisk.flush -/
abbrev s_CutDisk_flush : Stmt := inClass (top 11) 5
def dl_CutDisk_flush : List D := []
noncomputable def lb_CutDisk_flush_1 (c : Ad) : DS := (sPut (eV 2) (eFld c.cs "cells" (eV 0)) (eV 1))
noncomputable def den_CutDisk_flush (c : Ad) : DS := (sSeq (sFor (.tp [(.nm 1), (.nm 2)]) (iSeq (eFld c.cs "waiting" (eV 0))) (lb_CutDisk_flush_1 c))
  (sAttr c.cs "waiting" (eLN aN) (eV 0)))
noncomputable def F_CutDisk_flush (c : Ad) : List D → Sto → R D := runB 3 (den_CutDisk_flush c)
/-! CutDisk.fall -/
abbrev s_CutDisk_fall : Stmt := inClass (top 11) 6
def dl_CutDisk_fall : List D := []
noncomputable def lb_CutDisk_fall_1 (c : Ad) : DS := (sIf (tOr (tNot (tV (eFn 1 (F_is_lot c) (dl_is_lot.drop 0) (aC (eV 3) aN)))) (tNot (tV (eCall fAll (aC (eLV (lLc (.nm 4) (iSeq (eV 3)) tYes (e2 fLt (eV 4) (eCall fLen (aC (eFld c.cs "waiting" (eV 0)) aN))) [4])) aN))))) (sRaise c.Refused (eC (.str "fall"))) sNx)
noncomputable def lb_CutDisk_fall_2 (c : Ad) : DS := (sSeq (sIf (tVB (e2 (fInA false) (eV 4) (eV 1))) (sPut (eV 6) (eFld c.cs "cells" (eV 0)) (eV 5)) sNx)
  (sIf (tVB (e2 (fInA false) (eV 4) (eV 2))) (sPut (eC c_TORN) (eFld c.cs "cells" (eV 0)) (eV 5)) sNx))
noncomputable def den_CutDisk_fall (c : Ad) : DS := (sSeq (sFor (.nm 3) (iSeq (eTup (aC (eV 1) (aC (eV 2) aN)))) (lb_CutDisk_fall_1 c))
  (sSeq (sIf (tV (eCall fAny (aC (eLV (lLc (.nm 4) (iSeq (eV 2)) tYes (e2 (fInA false) (eV 4) (eV 1)) [4])) aN))) (sRaise c.Refused (eC (.str "fall"))) sNx)
  (sSeq (sFor (.tp [(.nm 4), (.tp [(.nm 5), (.nm 6)])]) (iCall fEnum (aC (eFld c.cs "waiting" (eV 0)) aN)) (lb_CutDisk_fall_2 c))
  (sAttr c.cs "waiting" (eLN aN) (eV 0)))))
noncomputable def F_CutDisk_fall (c : Ad) : List D → Sto → R D := runB 7 (den_CutDisk_fall c)
/-! _law_take -/
abbrev s__law_take : Stmt := top 13
def dl__law_take : List D := []
noncomputable def den__law_take (c : Ad) : DS := (sSeq (sIf (tVB (e2 fGt (e2 fIx (eV 0) (eC (.int 0))) (eC (.int 0)))) (sSeq (sSet 2 (e2 fMod (eCall fInt (aC (e2 fIx (eV 0) (eC (.int 0))) aN)) (eV 1)))
  (sSeq (sPut (e2 fDiv (e2 fIx (eV 0) (eC (.int 0))) (eV 1)) (eV 0) (eC (.int 0)))
  (sRet (eV 2)))) sNx)
  (sSeq (sPut (e2 fPlus (e2 fIx (eV 0) (eC (.int 2))) (eC (.int 1))) (eV 0) (eC (.int 2)))
  (sSeq (sSet 3 (e2 fMod (eCall fInt (aC (e2 fPlus (e2 fMul (e2 fPlus (e2 fIx (eV 0) (eC (.int 1))) (e2 fMul (eC (.int 71011)) (e2 fIx (eV 0) (eC (.int 2))))) (eC (.int 45053))) (eC (.int 577))) aN)) (eC (.int 2147483543))))
  (sSeq (sPut (e2 fPlus (e2 fMod (eCall fInt (aC (e2 fPlus (e2 fMul (eV 3) (eC (.int 37013))) (eC (.int 26003))) aN)) (eC (.int 2147483629))) (eC (.int 1))) (eV 0) (eC (.int 1)))
  (sRet (e2 fMod (eCall fInt (aC (e2 fDiv (e2 fPlus (e2 fMul (eV 3) (eC (.int 2147483647))) (e2 fIx (eV 0) (eC (.int 1)))) (eC (.int 3109))) aN)) (eV 1)))))))
noncomputable def F__law_take (c : Ad) : List D → Sto → R D := runB 4 (den__law_take c)
/-! _law_pick -/
abbrev s__law_pick : Stmt := top 14
def dl__law_pick : List D := []
noncomputable def den__law_pick (c : Ad) : DS := (sRet (e2 fIx (eV 1) (eFn 2 (F__law_take c) (dl__law_take.drop 0) (aC (eV 0) (aC (eCall fLen (aC (eV 1) aN)) aN)))))
noncomputable def F__law_pick (c : Ad) : List D → Sto → R D := runB 2 (den__law_pick c)
/-! _law_box -/
abbrev s__law_box : Stmt := top 16
def dl__law_box : List D := []
noncomputable def den__law_box (c : Ad) : DS := (sSeq (sSet 2 (e2 fPlus (e2 fMul (eC (.int 4703)) (eV 1)) (eC (.int 2909))))
  (sSeq (sIf (tVB (e2 fLt (eV 1) (eCall fLen (aC (eV 0) aN)))) (sSet 2 (e2 fMod (eCall fInt (aC (eCall fAbs (aC (e2 fIx (eV 0) (eV 1)) aN)) aN)) (e2 fMul (e2 fMul (e2 fPow (eC (.int 10)) (eC (.int 60))) (e2 fPow (eC (.int 10)) (eC (.int 60)))) (e2 fPow (eC (.int 10)) (eC (.int 60)))))) (sIf (tVB (e2 fGt (eCall fLen (aC (eV 0) aN)) (eC (.int 0)))) (sSet 2 (e2 fPlus (eV 2) (e2 fMul (e2 fMod (eCall fInt (aC (eCall fAbs (aC (e2 fIx (eV 0) (e2 fMod (eCall fInt (aC (eV 1) aN)) (eCall fLen (aC (eV 0) aN)))) aN)) aN)) (eC (.int 2147483629))) (eC (.int 59009))))) sNx))
  (sRet (eLN (aC (e2 fIx (eLV (aC (eC (.int 0)) (aC (eV 2) aN))) (eCall fInt (aC (e2 fGe (eV 2) (e2 fPow (eC (.int 10)) (eC (.int 18)))) aN))) (aC (e2 fPlus (e2 fMod (eCall fInt (aC (e2 fPlus (e2 fMul (e2 fMod (eCall fInt (aC (eV 2) aN)) (eC (.int 2147483629))) (eC (.int 33023))) (e2 fMul (eC (.int 43019)) (eV 1))) aN)) (eC (.int 2147483629))) (eC (.int 1))) (aC (eC (.int 0)) aN)))))))
noncomputable def F__law_box (c : Ad) : List D → Sto → R D := runB 3 (den__law_box c)
/-! _law_same -/
abbrev s__law_same : Stmt := top 17
def dl__law_same : List D := []
noncomputable def den__law_same (c : Ad) (F_rec : List D → Sto → R D) : DS := (sSeq (sIf (tOr (tVB (e1 fIsN (eV 1))) (tOr (tVB (e2 fIsC (eV 1) (eC (.bl true)))) (tVB (e2 fIsC (eV 1) (eC (.bl false)))))) (sRet (e2 fIx (eLV (aC (e1 fIsN (eV 0)) (aC (e2 fIsC (eV 0) (eC (.bl true))) (aC (e2 fIsC (eV 0) (eC (.bl false))) aN)))) (eBV fIdx (eLV (aC (eC .non) (aC (eC (.bl true)) (aC (eC (.bl false)) aN)))) (aC (eV 1) aN)))) sNx)
  (sSeq (sIf (tV (eCall (fIsi c.cs) (aC (eV 1) (aC (eC (.ty "str")) aN)))) (sRet (eAnd (eCall (fIsi c.cs) (aC (eV 0) (aC (eC (.ty "str")) aN))) (e2 fEq (eV 0) (eV 1)))) sNx)
  (sSeq (sIf (tV (eCall (fIsi c.cs) (aC (eV 1) (aC (eC (.ty "int")) aN)))) (sRet (eAnd (eCall (fIsi c.cs) (aC (eV 0) (aC (eC (.ty "int")) aN))) (eAnd (eNot (eCall (fIsi c.cs) (aC (eV 0) (aC (eC (.ty "bool")) aN)))) (e2 fEq (eV 0) (eV 1))))) sNx)
  (sSeq (sIf (tOr (tNot (tV (eCall (fIsi c.cs) (aC (eV 0) (aC (eC (.ty "tuple")) aN))))) (tVB (e2 fNe (eCall fLen (aC (eV 0) aN)) (eCall fLen (aC (eV 1) aN))))) (sRet (eC (.bl false))) sNx)
  (sRet (eCall fAll (aC (eLV (lLc (.nm 2) (iR1 (eCall fLen (aC (eV 1) aN))) tYes (eFn 2 (F_rec) (dl__law_same.drop 0) (aC (e2 fIx (eV 0) (eV 2)) (aC (e2 fIx (eV 1) (eV 2)) aN))) [2])) aN)))))))
noncomputable def F__law_same (c : Ad) : Nat → List D → Sto → R D
  | 0 => fun _ _ => .bad
  | fuel + 1 => runB 3 (den__law_same c (F__law_same c fuel))
/-! _law_cut -/
abbrev s__law_cut : Stmt := top 18
def dl__law_cut : List D := []
noncomputable def lb__law_cut_1 (c : Ad) : DS := (sSeq (sIf (tVB (e2 (fInA false) (eV 5) (eV 2))) (sPut (e2 fIx (e2 fIx (eV 1) (eV 5)) (eC (.int 1))) (eV 4) (e2 fIx (e2 fIx (eV 1) (eV 5)) (eC (.int 0)))) sNx)
  (sIf (tVB (e2 (fInA false) (eV 5) (eV 3))) (sPut (eTup (aC (eC (.str "torn")) aN)) (eV 4) (e2 fIx (e2 fIx (eV 1) (eV 5)) (eC (.int 0)))) sNx))
noncomputable def den__law_cut (c : Ad) : DS := (sSeq (sSet 4 (eLN (lList (aC (eV 0) aN))))
  (sSeq (sFor (.nm 5) (iR1 (eCall fLen (aC (eV 1) aN))) (lb__law_cut_1 c))
  (sRet (eV 4))))
noncomputable def F__law_cut (c : Ad) : List D → Sto → R D := runB 6 (den__law_cut c)
/-! _law_lots -/
abbrev s__law_lots : Stmt := top 19
def dl__law_lots : List D := []
noncomputable def lb__law_lots_1 (c : Ad) : DS := (sSeq (sSet 5 (eFn 2 (F__law_take c) (dl__law_take.drop 0) (aC (eV 0) (aC (eC (.int 3)) aN))))
  (sPar 2 3 (eLV (lCat (eV 2) (eIf (tVB (e2 fEq (eV 5) (eC (.int 0)))) (eLV (aC (eV 4) aN)) (eLV aN)))) (eLV (lCat (eV 3) (eIf (tVB (e2 fEq (eV 5) (eC (.int 1)))) (eLV (aC (eV 4) aN)) (eLV aN))))))
noncomputable def den__law_lots (c : Ad) : DS := (sSeq (sPar 2 3 (eLV aN) (eLV aN))
  (sSeq (sFor (.nm 4) (iR1 (eV 1)) (lb__law_lots_1 c))
  (sRet (eTup (aC (eCall fTuple (aC (eV 2) aN)) (aC (eCall fTuple (aC (eV 3) aN)) aN))))))
noncomputable def F__law_lots (c : Ad) : List D → Sto → R D := runB 6 (den__law_lots c)
/-! _law_refused -/
abbrev s__law_refused : Stmt := top 20
def dl__law_refused : List D := []
/-! _law_is_lot -/
abbrev s__law_is_lot : Stmt := top 21
def dl__law_is_lot : List D := []
noncomputable def den__law_is_lot (c : Ad) : DS := (sSeq (sIf (tOr (tNot (tV (eCall (fIsi c.cs) (aC (eV 0) (aC (eC (.ty "tuple")) aN))))) (tNot (tV (eCall fAll (aC (eLV (lLc (.nm 2) (iSeq (eV 0)) tYes (eAnd (eCall (fIsi c.cs) (aC (eV 2) (aC (eC (.ty "int")) aN))) (eNot (eCall (fIsi c.cs) (aC (eV 2) (aC (eC (.ty "bool")) aN))))) [2])) aN))))) (sRet (eC (.bl false))) sNx)
  (sRet (eAnd (eCall fAll (aC (eLV (lLc (.nm 2) (iSeq (eV 0)) tYes (eChain fLe fLt (eC (.int 0)) (eV 2) (eV 1)) [2])) aN)) (e2 fEq (eLV (lList (aC (eV 0) aN))) (eLV (lSortSetT (aC (eV 0) aN)))))))
noncomputable def F__law_is_lot (c : Ad) : List D → Sto → R D := runB 3 (den__law_is_lot c)
/-! _law_like -/
abbrev s__law_like : Stmt := top 22
def dl__law_like : List D := []
noncomputable def den__law_like (c : Ad) : DS := (sSeq (sIf (tOr (tNot (tV (eFn 2 (F__law_same c 6) (dl__law_same.drop 0) (aC (eMt c.cs "waits" c.CutDisk 1 (F_CutDisk_waits c) (dl_CutDisk_waits.drop 0) (eV 0) aN) (aC (eCall fLen (aC (eV 2) aN)) aN))))) (tNot (tV (eFn 2 (F__law_same c 6) (dl__law_same.drop 0) (aC (eMt c.cs "size" c.CutDisk 1 (F_CutDisk_size c) (dl_CutDisk_size.drop 0) (eV 0) aN) (aC (eCall fLen (aC (eV 1) aN)) aN)))))) (sRet (eC (.bl false))) sNx)
  (sRet (eCall fAll (aC (eLV (lLc (.nm 3) (iR1 (eCall fLen (aC (eV 1) aN))) tYes (eFn 2 (F__law_same c 6) (dl__law_same.drop 0) (aC (eMt c.cs "read" c.CutDisk 2 (F_CutDisk_read c) (dl_CutDisk_read.drop 0) (eV 0) (aC (eV 3) aN)) (aC (e2 fIx (eV 1) (eV 3)) aN))) [3])) aN))))
noncomputable def F__law_like (c : Ad) : List D → Sto → R D := runB 4 (den__law_like c)
/-! law -/
abbrev s_law : Stmt := top 23
def dl_law : List D := []
noncomputable def lb_law_1 (c : Ad) : DS := (sIf (tNot (tV (eFn 2 (F__law_same c 6) (dl__law_same.drop 0) (aC (eRef c.tab "law.<locals>.<lambda>" c.mt_Refused c.es "refused" (eMk c.CutDisk 2 (F_CutDisk_mk c) (dl_CutDisk_mk.drop 0) (aC (eV 1) aN))) (aC (eTup (aC (eC (.str "refused")) (aC (eC (.str "slots")) aN))) aN))))) (sRet (eC (.bl false))) sNx)
noncomputable def lb_law_2 (c : Ad) : DS := (sSeq (sSet 18 (eAnd (eFn 2 (F__law_is_lot c) (dl__law_is_lot.drop 0) (aC (eV 15) (aC (eCall fLen (aC (eV 7) aN)) aN))) (eFn 2 (F__law_is_lot c) (dl__law_is_lot.drop 0) (aC (eV 16) (aC (eCall fLen (aC (eV 7) aN)) aN)))))
  (sSeq (sIf (tAnd (tV (eV 18)) (tNot (tV (eCall fAny (aC (eLV (lLc (.nm 19) (iSeq (eV 16)) tYes (e2 (fInA false) (eV 19) (eV 15)) [19])) aN))))) (sRet (eC (.bl false))) sNx)
  (sIf (tNot (tV (eFn 2 (F__law_same c 6) (dl__law_same.drop 0) (aC (eRef c.tab "law.<locals>.<lambda>" c.mt_Refused c.es "refused" (eMt c.cs "fall" c.CutDisk 3 (F_CutDisk_fall c) (dl_CutDisk_fall.drop 0) (eV 5) (aC (eV 15) (aC (eV 16) aN)))) (aC (eTup (aC (eC (.str "refused")) (aC (eC (.str "fall")) aN))) aN))))) (sRet (eC (.bl false))) sNx)))
noncomputable def lb_law_3 (c : Ad) : DS := (sSeq (sSet 9 (eFn 2 (F__law_take c) (dl__law_take.drop 0) (aC (eV 3) (aC (eC (.int 8)) aN))))
  (sSeq (sIf (tVB (e2 fLt (eV 9) (eC (.int 5)))) (sSeq (sPar 10 11 (eFn 2 (F__law_take c) (dl__law_take.drop 0) (aC (eV 3) (aC (eV 4) aN))) (eTup (aC (eC (.str "row")) (aC (eV 8) (aC (eTup (aC (eFn 2 (F__law_take c) (dl__law_take.drop 0) (aC (eV 3) (aC (eC (.int 9)) aN))) (aC (eV 8) aN))) aN)))))
  (sSeq (sDrop (eMt c.cs "put" c.CutDisk 3 (F_CutDisk_put c) (dl_CutDisk_put.drop 0) (eV 5) (aC (eV 10) (aC (eV 11) aN))))
  (sDrop (eBM fApp (eV 7) (aC (eTup (aC (eV 10) (aC (eV 11) aN))) aN))))) (sIf (tVB (e2 fEq (eV 9) (eC (.int 5)))) (sSeq (sDrop (eMt c.cs "flush" c.CutDisk 1 (F_CutDisk_flush c) (dl_CutDisk_flush.drop 0) (eV 5) aN))
  (sPar 6 7 (eFn 4 (F__law_cut c) (dl__law_cut.drop 0) (aC (eV 6) (aC (eV 7) (aC (eLV (lRange (eCall fLen (aC (eV 7) aN)))) (aC (eLV aN) aN))))) (eLN aN))) (sSeq (sAsg (.tp [(.nm 12), (.nm 13)]) (eFn 2 (F__law_lots c) (dl__law_lots.drop 0) (aC (eV 3) (aC (eCall fLen (aC (eV 7) aN)) aN))))
  (sSeq (sSet 14 (eLV (aC (eTup (aC (eV 12) (aC (eC .non) aN))) (aC (eTup (aC (eC .non) (aC (eV 13) aN))) (aC (eTup (aC (eV 12) (aC (eTup (aC (eCall fLen (aC (eV 7) aN)) aN)) aN))) (aC (eTup (aC (eLV (lList (aC (eV 12) aN))) (aC (eV 13) aN))) (aC (eTup (aC (eTup (aC (eC (.bl true)) aN)) (aC (eTup aN) aN))) (aC (eTup (aC (eTup (aC (eC (.int 0)) (aC (eC (.int 0)) aN))) (aC (eTup aN) aN))) (aC (eTup (aC (eTup (aC (e1 fNeg (eC (.int 1))) aN)) (aC (eTup aN) aN))) aN)))))))))
  (sSeq (sIf (tVB (e2 fNe (eV 7) (eLV aN))) (sSet 14 (eLV (lCat (eV 14) (eLV (aC (eTup (aC (eTup (aC (eC (.int 0)) aN)) (aC (eTup (aC (eC (.int 0)) aN)) aN))) (aC (eTup (aC (eTup (aC (eC (.int 1)) (aC (eC (.int 0)) aN))) (aC (eTup aN) aN))) aN)))))) sNx)
  (sSeq (sFor (.tp [(.nm 15), (.nm 16)]) (iSeq (eLV (lLc (.nm 17) (iR1 (eC (.int 3))) tYes (eFn 2 (F__law_pick c) (dl__law_pick.drop 0) (aC (eV 3) (aC (eV 14) aN))) [17]))) (lb_law_2 c))
  (sSeq (sDrop (eMt c.cs "fall" c.CutDisk 3 (F_CutDisk_fall c) (dl_CutDisk_fall.drop 0) (eV 5) (aC (eV 12) (aC (eV 13) aN))))
  (sPar 6 7 (eFn 4 (F__law_cut c) (dl__law_cut.drop 0) (aC (eV 6) (aC (eV 7) (aC (eV 12) (aC (eV 13) aN))))) (eLN aN)))))))))
  (sIf (tNot (tV (eFn 3 (F__law_like c) (dl__law_like.drop 0) (aC (eV 5) (aC (eV 6) (aC (eV 7) aN)))))) (sRet (eC (.bl false))) sNx)))
noncomputable def lb_law_4 (c : Ad) : DS := (sSeq (sSet 3 (eFn 2 (F__law_box c) (dl__law_box.drop 0) (aC (eV 0) (aC (eV 2) aN))))
  (sSeq (sSet 4 (e2 fPlus (eC (.int 3)) (eFn 2 (F__law_take c) (dl__law_take.drop 0) (aC (eV 3) (aC (e2 fIx (eLV (aC (eC (.int 3)) (aC (eC (.int 38)) aN))) (eV 2)) aN)))))
  (sSeq (sAsg (.tp [(.nm 5), (.nm 6), (.nm 7)]) (eTup (aC (eMk c.CutDisk 2 (F_CutDisk_mk c) (dl_CutDisk_mk.drop 0) (aC (eV 4) aN)) (aC (eLN (lRep (eLV (aC (eC .non) aN)) (eV 4))) (aC (eLN aN) aN)))))
  (sFor (.nm 8) (iR1 (eC (.int 30))) (lb_law_3 c)))))
noncomputable def den_law (c : Ad) : DS := (sSeq (sFor (.nm 1) (iSeq (eLV (aC (eC (.int 2)) (aC (eC (.int 0)) (aC (eC (.int 41)) (aC (eC .non) (aC (eC (.bl true)) (aC (e1 fNeg (eC (.int 3))) (aC (eC (.str "3")) (aC (eTup (aC (eC (.int 3)) aN)) aN)))))))))) (lb_law_1 c))
  (sSeq (sFor (.nm 2) (iR1 (eC (.int 2))) (lb_law_4 c))
  (sRet (eC (.bl true)))))
noncomputable def F_law (c : Ad) : List D → Sto → R D := runB 20 (den_law c)
end Z.k64
namespace Z.k64
open PySem L2 Z
variable (c : Ad) (S : Sto)
/-! ### draws -/
theorem get_lt {α : Type} {xs : List α} {i : Nat} {x : α} (h : xs[i]? = some x) : i < xs.length := (List.getElem?_eq_some_iff.mp h).1
theorem get_of {α : Type} {xs : List α} {i : Nat} (h : i < xs.length) : ∃ x, xs[i]? = some x := ⟨xs[i], by simp [h]⟩
def boxO (z st ct : Int) : O := .lst [.int z, .int st, .int ct]
theorem set_get {S : Sto} {i : Nat} {o o' : O} (h : S[i]? = some o) : (S.set i o')[i]? = some o' := by
  rw [List.getElem?_set_self (get_lt h)]
theorem set_get_ne {S : Sto} {i j : Nat} {o : O} (h : i ≠ j) : (S.set i o)[j]? = S[j]? := List.getElem?_set_ne h
theorem take_i {b : Nat} {z st ct : Int} (hb : S[b]? = some (boxO z st ct)) (many : Nat) (h0 : 0 < many) (h1 : many ≤ 1000000) : ∃ (r : Nat) (z' st' ct' : Int), r < many ∧ F__law_take c [.ref b, .int many] S = .ok (.int r) (S.set b (boxO z' st' ct')) := by
  have m0 : (0 : Int) < (many : Int) := by omega
  have dv : ∀ i : Int, divOk i (many : Int) = true := fun i => divOk_of m0 (by
    have e : (many : Int).natAbs = many := by omega
    rw [e]
    exact Nat.lt_of_le_of_lt h1 (by decide +kernel))
  have dv3 : ∀ i : Int, divOk i 3109 = true := fun i => divOk_of (by decide) (by decide +kernel)
  have mu1 : ∀ i : Int, mulOk 71011 i = true := fun i => mulOk_l (by decide)
  have mu2 : ∀ i : Int, mulOk i 45053 = true := fun i => mulOk_r (by decide)
  have mu3 : ∀ i : Int, mulOk i 37013 = true := fun i => mulOk_r (by decide)
  have mu4 : ∀ i : Int, mulOk i 2147483647 = true := fun i => mulOk_r (by decide)
  have rr : ∀ i : Int, ∃ r : Nat, r < many ∧ i % (many : Int) = (r : Int) := fun i => by
    have a := Int.emod_nonneg i (show (many : Int) ≠ 0 by omega)
    have b := Int.emod_lt_of_pos i m0
    exact ⟨(i % (many : Int)).toNat, by omega, by omega⟩
  have hs : ∀ o, (S.set b o)[b]? = some o := fun o => set_get hb
  have hb' : S[b]? = some (.lst [.int z, .int st, .int ct]) := hb
  have i0 : ixN 3 0 = some 0 := by decide
  have i1 : ixN 3 1 = some 1 := by decide
  have i2 : ixN 3 2 = some 2 := by decide
  by_cases g : 0 < z
  · obtain ⟨r, hr, er⟩ := rr z
    refine ⟨r, z / many, st, ct, hr, ?_⟩
    simp [F__law_take, den__law_take, hb', g, dv, er, i0, m0, h0, boxO, runB, env0, sSeq, sRet, sRetN, sIf, sSet, sDrop, sNx, sPar, sAsg, sAttr, sPut, sRaise, Tg.asg, Tg.asgs, eAnd, eOr, eNot, eIf, tAnd, tOr, tNot, tV, tVB, tYes, eCall, eFn, eMk, eMt, eFld, eBM, aC, aN, eV, eC, Z.e1, Z.e2, eTup, eLV, eLN, eChain, eSl, fIsi, tyD, isK, anyK, tNames, rB, tru, fLen, fTuple, fAbs, fInt, fAll, fAny, fIsN, fNotN, fIsB, fNotB, fNeg, seqOf, lstOf, isL, fLt_ii, fLe_ii, fGt_ii, fGe_ii, fSub_ii, fPlus, fMod_ii, fMul_ii, fDiv_ii, fEq, fNe, eqD_int, fIx, atI_0, atI_1, atI_2, lLc, lLc2, iSeq, iCall, fEnum, fZip, wipeD, putD, lSl, lRev, R.to_ok, R.bind_ok]
  · obtain ⟨r, hr, er⟩ := rr (((((st + 71011 * (ct + 1)) * 45053 + 577) % 2147483543) * 2147483647 + ((((((st + 71011 * (ct + 1)) * 45053 + 577) % 2147483543) * 37013 + 26003) % 2147483629) + 1)) / 3109)
    refine ⟨r, z, (((((st + 71011 * (ct + 1)) * 45053 + 577) % 2147483543) * 37013 + 26003) % 2147483629) + 1, ct + 1, hr, ?_⟩
    simp [F__law_take, den__law_take, hb', g, dv3, mu1, mu2, mu3, mu4, er, i0, i1, i2, m0, h0, boxO, hs, runB, env0, sSeq, sRet, sRetN, sIf, sSet, sDrop, sNx, sPar, sAsg, sAttr, sPut, sRaise, Tg.asg, Tg.asgs, eAnd, eOr, eNot, eIf, tAnd, tOr, tNot, tV, tVB, tYes, eCall, eFn, eMk, eMt, eFld, eBM, aC, aN, eV, eC, Z.e1, Z.e2, eTup, eLV, eLN, eChain, eSl, fIsi, tyD, isK, anyK, tNames, rB, tru, fLen, fTuple, fAbs, fInt, fAll, fAny, fIsN, fNotN, fIsB, fNotB, fNeg, seqOf, lstOf, isL, fLt_ii, fLe_ii, fGt_ii, fGe_ii, fSub_ii, fPlus, fMod_ii, fMul_ii, fDiv_ii, fEq, fNe, eqD_int, fIx, atI_0, atI_1, atI_2, lLc, lLc2, iSeq, iCall, fEnum, fZip, wipeD, putD, lSl, lRev, R.to_ok, R.bind_ok]
theorem pick_i {b : Nat} {z st ct : Int} (hb : S[b]? = some (boxO z st ct)) (ds : List D) (h0 : 0 < ds.length) (h1 : ds.length ≤ 1000000) : ∃ (d : D) (z' st' ct' : Int), d ∈ ds ∧ F__law_pick c [.ref b, .lst ds] S = .ok d (S.set b (boxO z' st' ct')) := by
  obtain ⟨r, z', st', ct', hr, e⟩ := take_i c S hb ds.length h0 h1
  refine ⟨ds[r], z', st', ct', List.getElem_mem .., ?_⟩
  have e2 : L2.atI ds ((r : Nat) : Int) = some ds[r] := by
    rw [atI_nat]
    simp [hr]
  simp [F__law_pick, den__law_pick, dl__law_take, e, e2, runB, env0, sSeq, sRet, sRetN, sIf, sSet, sDrop, sNx, sPar, sAsg, sAttr, sPut, sRaise, Tg.asg, Tg.asgs, eAnd, eOr, eNot, eIf, tAnd, tOr, tNot, tV, tVB, tYes, eCall, eFn, eMk, eMt, eFld, eBM, aC, aN, eV, eC, Z.e1, Z.e2, eTup, eLV, eLN, eChain, eSl, fIsi, tyD, isK, anyK, tNames, rB, tru, fLen, fTuple, fAbs, fInt, fAll, fAny, fIsN, fNotN, fIsB, fNotB, fNeg, seqOf, lstOf, isL, fLt_ii, fLe_ii, fGt_ii, fGe_ii, fSub_ii, fPlus, fMod_ii, fMul_ii, fDiv_ii, fEq, fNe, eqD_int, fIx, atI_0, atI_1, atI_2, lLc, lLc2, iSeq, iCall, fEnum, fZip, wipeD, putD, lSl, lRev, R.to_ok, R.bind_ok]
/-! ### numbers and lots -/
theorem is_integer_i (k : Int) : F_is_integer c [.int k] S = .ok (.bl true) S := by
  simp [F_is_integer, den_is_integer, runB, env0, sSeq, sRet, sRetN, sIf, sSet, sDrop, sNx, sPar, sAsg, sAttr, sPut, sRaise, Tg.asg, Tg.asgs, eAnd, eOr, eNot, eIf, tAnd, tOr, tNot, tV, tVB, tYes, eCall, eFn, eMk, eMt, eFld, eBM, aC, aN, eV, eC, Z.e1, Z.e2, eTup, eLV, eLN, eChain, eSl, fIsi, tyD, isK, anyK, tNames, rB, tru, fLen, fTuple, fAbs, fInt, fAll, fAny, fIsN, fNotN, fIsB, fNotB, fNeg, seqOf, lstOf, isL, fLt_ii, fLe_ii, fGt_ii, fGe_ii, fSub_ii, fPlus, fMod_ii, fMul_ii, fDiv_ii, fEq, fNe, eqD_int, fIx, atI_0, atI_1, atI_2, lLc, lLc2, iSeq, iCall, fEnum, fZip, wipeD, putD, lSl, lRev, R.to_ok, R.bind_ok]
def NoI (c : Ad) (d : D) : Prop := ∀ S, F_is_integer c [d] S = .ok (.bl false) S
theorem noI_non : NoI c .non := fun S => by simp [F_is_integer, den_is_integer, runB, env0, sSeq, sRet, sRetN, sIf, sSet, sDrop, sNx, sPar, sAsg, sAttr, sPut, sRaise, Tg.asg, Tg.asgs, eAnd, eOr, eNot, eIf, tAnd, tOr, tNot, tV, tVB, tYes, eCall, eFn, eMk, eMt, eFld, eBM, aC, aN, eV, eC, Z.e1, Z.e2, eTup, eLV, eLN, eChain, eSl, fIsi, tyD, isK, anyK, tNames, rB, tru, fLen, fTuple, fAbs, fInt, fAll, fAny, fIsN, fNotN, fIsB, fNotB, fNeg, seqOf, lstOf, isL, fLt_ii, fLe_ii, fGt_ii, fGe_ii, fSub_ii, fPlus, fMod_ii, fMul_ii, fDiv_ii, fEq, fNe, eqD_int, fIx, atI_0, atI_1, atI_2, lLc, lLc2, iSeq, iCall, fEnum, fZip, wipeD, putD, lSl, lRev, R.to_ok, R.bind_ok]
theorem noI_bl (b : Bool) : NoI c (.bl b) := fun S => by simp [F_is_integer, den_is_integer, runB, env0, sSeq, sRet, sRetN, sIf, sSet, sDrop, sNx, sPar, sAsg, sAttr, sPut, sRaise, Tg.asg, Tg.asgs, eAnd, eOr, eNot, eIf, tAnd, tOr, tNot, tV, tVB, tYes, eCall, eFn, eMk, eMt, eFld, eBM, aC, aN, eV, eC, Z.e1, Z.e2, eTup, eLV, eLN, eChain, eSl, fIsi, tyD, isK, anyK, tNames, rB, tru, fLen, fTuple, fAbs, fInt, fAll, fAny, fIsN, fNotN, fIsB, fNotB, fNeg, seqOf, lstOf, isL, fLt_ii, fLe_ii, fGt_ii, fGe_ii, fSub_ii, fPlus, fMod_ii, fMul_ii, fDiv_ii, fEq, fNe, eqD_int, fIx, atI_0, atI_1, atI_2, lLc, lLc2, iSeq, iCall, fEnum, fZip, wipeD, putD, lSl, lRev, R.to_ok, R.bind_ok]
theorem noI_str (b : Str) : NoI c (.str b) := fun S => by simp [F_is_integer, den_is_integer, runB, env0, sSeq, sRet, sRetN, sIf, sSet, sDrop, sNx, sPar, sAsg, sAttr, sPut, sRaise, Tg.asg, Tg.asgs, eAnd, eOr, eNot, eIf, tAnd, tOr, tNot, tV, tVB, tYes, eCall, eFn, eMk, eMt, eFld, eBM, aC, aN, eV, eC, Z.e1, Z.e2, eTup, eLV, eLN, eChain, eSl, fIsi, tyD, isK, anyK, tNames, rB, tru, fLen, fTuple, fAbs, fInt, fAll, fAny, fIsN, fNotN, fIsB, fNotB, fNeg, seqOf, lstOf, isL, fLt_ii, fLe_ii, fGt_ii, fGe_ii, fSub_ii, fPlus, fMod_ii, fMul_ii, fDiv_ii, fEq, fNe, eqD_int, fIx, atI_0, atI_1, atI_2, lLc, lLc2, iSeq, iCall, fEnum, fZip, wipeD, putD, lSl, lRev, R.to_ok, R.bind_ok]
theorem noI_tup (b : List D) : NoI c (.tup b) := fun S => by simp [F_is_integer, den_is_integer, runB, env0, sSeq, sRet, sRetN, sIf, sSet, sDrop, sNx, sPar, sAsg, sAttr, sPut, sRaise, Tg.asg, Tg.asgs, eAnd, eOr, eNot, eIf, tAnd, tOr, tNot, tV, tVB, tYes, eCall, eFn, eMk, eMt, eFld, eBM, aC, aN, eV, eC, Z.e1, Z.e2, eTup, eLV, eLN, eChain, eSl, fIsi, tyD, isK, anyK, tNames, rB, tru, fLen, fTuple, fAbs, fInt, fAll, fAny, fIsN, fNotN, fIsB, fNotB, fNeg, seqOf, lstOf, isL, fLt_ii, fLe_ii, fGt_ii, fGe_ii, fSub_ii, fPlus, fMod_ii, fMul_ii, fDiv_ii, fEq, fNe, eqD_int, fIx, atI_0, atI_1, atI_2, lLc, lLc2, iSeq, iCall, fEnum, fZip, wipeD, putD, lSl, lRev, R.to_ok, R.bind_ok]
theorem is_number_i (k m : Int) : F_is_number c [.int k, .int m] S = .ok (.bl (decide (0 ≤ k) && decide (k ≤ m))) S := by
  by_cases h : 0 ≤ k <;> simp [F_is_number, den_is_number, dl_is_integer, is_integer_i, h, runB, env0, sSeq, sRet, sRetN, sIf, sSet, sDrop, sNx, sPar, sAsg, sAttr, sPut, sRaise, Tg.asg, Tg.asgs, eAnd, eOr, eNot, eIf, tAnd, tOr, tNot, tV, tVB, tYes, eCall, eFn, eMk, eMt, eFld, eBM, aC, aN, eV, eC, Z.e1, Z.e2, eTup, eLV, eLN, eChain, eSl, fIsi, tyD, isK, anyK, tNames, rB, tru, fLen, fTuple, fAbs, fInt, fAll, fAny, fIsN, fNotN, fIsB, fNotB, fNeg, seqOf, lstOf, isL, fLt_ii, fLe_ii, fGt_ii, fGe_ii, fSub_ii, fPlus, fMod_ii, fMul_ii, fDiv_ii, fEq, fNe, eqD_int, fIx, atI_0, atI_1, atI_2, lLc, lLc2, iSeq, iCall, fEnum, fZip, wipeD, putD, lSl, lRev, R.to_ok, R.bind_ok]
theorem is_number_n (k : Int) : F_is_number c [.int k, .non] S = .ok (.bl (decide (0 ≤ k))) S := by
  by_cases h : 0 ≤ k <;> simp [F_is_number, den_is_number, dl_is_integer, is_integer_i, h, runB, env0, sSeq, sRet, sRetN, sIf, sSet, sDrop, sNx, sPar, sAsg, sAttr, sPut, sRaise, Tg.asg, Tg.asgs, eAnd, eOr, eNot, eIf, tAnd, tOr, tNot, tV, tVB, tYes, eCall, eFn, eMk, eMt, eFld, eBM, aC, aN, eV, eC, Z.e1, Z.e2, eTup, eLV, eLN, eChain, eSl, fIsi, tyD, isK, anyK, tNames, rB, tru, fLen, fTuple, fAbs, fInt, fAll, fAny, fIsN, fNotN, fIsB, fNotB, fNeg, seqOf, lstOf, isL, fLt_ii, fLe_ii, fGt_ii, fGe_ii, fSub_ii, fPlus, fMod_ii, fMul_ii, fDiv_ii, fEq, fNe, eqD_int, fIx, atI_0, atI_1, atI_2, lLc, lLc2, iSeq, iCall, fEnum, fZip, wipeD, putD, lSl, lRev, R.to_ok, R.bind_ok]
theorem is_number_no {d : D} (h : NoI c d) (m : D) : F_is_number c [d, m] S = .ok (.bl false) S := by
  simp [F_is_number, den_is_number, dl_is_integer, h S, runB, env0, sSeq, sRet, sRetN, sIf, sSet, sDrop, sNx, sPar, sAsg, sAttr, sPut, sRaise, Tg.asg, Tg.asgs, eAnd, eOr, eNot, eIf, tAnd, tOr, tNot, tV, tVB, tYes, eCall, eFn, eMk, eMt, eFld, eBM, aC, aN, eV, eC, Z.e1, Z.e2, eTup, eLV, eLN, eChain, eSl, fIsi, tyD, isK, anyK, tNames, rB, tru, fLen, fTuple, fAbs, fInt, fAll, fAny, fIsN, fNotN, fIsB, fNotB, fNeg, seqOf, lstOf, isL, fLt_ii, fLe_ii, fGt_ii, fGe_ii, fSub_ii, fPlus, fMod_ii, fMul_ii, fDiv_ii, fEq, fNe, eqD_int, fIx, atI_0, atI_1, atI_2, lLc, lLc2, iSeq, iCall, fEnum, fZip, wipeD, putD, lSl, lRev, R.to_ok, R.bind_ok]
def natD (xs : List Nat) : List D := xs.map fun a => .int (a : Nat)
theorem natD_len (xs : List Nat) : (natD xs).length = xs.length := by simp [natD]
theorem natD_at {xs : List Nat} {i a : Nat} (h : xs[i]? = some a) : (natD xs)[i]? = some (.int (a : Nat)) := by simp [natD, h]
def Asc (l : List Nat) : Prop := l.Pairwise (· < ·) ∧ l.length ≤ 1000
theorem ascending_i {l : List Nat} (h : Asc l) : F_is_ascending c [.tup (natD l)] S = .ok (.bl true) S := by
  obtain ⟨h1, h2⟩ := h
  have g0 : ∀ a, iR2 (eC (.int 1)) (eCall fLen (aC (eV 0) aN)) [some (.tup (natD l)), a] S = .ok (iRow 1 (l.length - 1), fun _ => True) S := fun a => iR2_nat (i := 1) (n := l.length) (S' := S) (by simp [eC]) (by simp [eCall, aC, aN, eV, fLen, seqOf, natD_len]) (by omega) (by omega)
  have g1 : ∀ a, lcI (.nm 1) (fun _ => True) tYes (Z.e2 fLt (Z.e2 fIx (eV 0) (Z.e2 fSub (eV 1) (eC (.int 1)))) (Z.e2 fIx (eV 0) (eV 1))) [some (.tup (natD l)), a] (iRow 1 (l.length - 1)) S = .ok ((List.range (l.length - 1)).map fun _ => .bl true) S := fun a => lcI_range (fun _ => .bl true) trivial fun i hi => by
    obtain ⟨x, hx⟩ := get_of (xs := l) (i := i) (by omega)
    obtain ⟨y, hy⟩ := get_of (xs := l) (i := i + 1) (by omega)
    have lt : x < y := by
      obtain ⟨i1, e1⟩ := List.getElem?_eq_some_iff.mp hx
      obtain ⟨i2, e2⟩ := List.getElem?_eq_some_iff.mp hy
      have := List.pairwise_iff_getElem.mp h1 i (i + 1) i1 i2 (by omega)
      omega
    have n1 : (1 : Int) + (i : Nat) - 1 = ((i : Nat) : Int) := by omega
    have n2 : (1 : Int) + (i : Nat) = ((i + 1 : Nat) : Int) := by omega
    simp only [Z.e2, eV, eC, List.set_cons_zero, List.set_cons_succ, List.getElem?_cons_zero, List.getElem?_cons_succ, R.bind_ok, fSub_ii, n1]
    simp only [n2, fIx, atI_nat, natD_at hx, natD_at hy, R.bind_ok, fLt_ii]
    simp [lt]
  have g2 : bools ((List.range (l.length - 1)).map fun _ => D.bl true) = some ((List.range (l.length - 1)).map fun _ => true) := bools_true _
  have g3 : (iRow 1 (l.length - 1)).length ≤ 16777216 := by rw [iRow_len]; omega
  obtain ⟨R1, hR⟩ : ∃ R1, R1 = iRow 1 (l.length - 1) := ⟨_, rfl⟩
  rw [← hR] at g0 g1 g3
  obtain ⟨Q, hQ⟩ : ∃ Q : List Bool, Q = (List.range (l.length - 1)).map fun _ => true := ⟨_, rfl⟩
  have hq : Q.all id = true := by rw [hQ]; simp
  rw [← hQ] at g2
  simp only [F_is_ascending, den_is_ascending, runB, env0, sRet, eCall, aC, aN, eLV, lLc]
  simp [g0, g1, g2, g3, wipeD, fAll, lstOf, hq]
theorem is_lot_i {l : List Nat} (h : Asc l) : F_is_lot c [.tup (natD l)] S = .ok (.bl true) S := by
  have q := ascending_i c S h
  have g1 : ∀ a, lcI (.nm 1) (fun _ => True) tYes (eFn 2 (F_is_number c) [.non] (aC (eV 1) aN)) [some (.tup (natD l)), a] (natD l) S = .ok ((natD l).map fun _ => .bl true) S := fun a => lcI_map (fun _ => .bl true) trivial _ fun d hd => by
    obtain ⟨x, _, rfl⟩ := List.mem_map.mp hd
    refine ⟨_, asg_nm .., ?_⟩
    have e := is_number_n c S (x : Nat)
    simp [eFn, aC, aN, eV, e]
  have g2 : bools ((natD l).map fun _ => D.bl true) = some ((natD l).map fun _ => true) := bools_true _
  have g3 : (natD l).length ≤ 16777216 := by rw [natD_len]; have := h.2; omega
  simp [F_is_lot, den_is_lot, dl_is_number, dl_is_ascending, g1, g2, g3, q, runB, env0, sSeq, sRet, sRetN, sIf, sSet, sDrop, sNx, sPar, sAsg, sAttr, sPut, sRaise, Tg.asg, Tg.asgs, eAnd, eOr, eNot, eIf, tAnd, tOr, tNot, tV, tVB, tYes, eCall, eFn, eMk, eMt, eFld, eBM, aC, aN, eV, eC, Z.e1, Z.e2, eTup, eLV, eLN, eChain, eSl, fIsi, tyD, isK, anyK, tNames, rB, tru, fLen, fTuple, fAbs, fInt, fAll, fAny, fIsN, fNotN, fIsB, fNotB, fNeg, seqOf, lstOf, isL, fLt_ii, fLe_ii, fGt_ii, fGe_ii, fSub_ii, fPlus, fMod_ii, fMul_ii, fDiv_ii, fEq, fNe, eqD_int, fIx, atI_0, atI_1, atI_2, lLc, lLc2, iSeq, iCall, fEnum, fZip, wipeD, putD, lSl, lRev, R.to_ok, R.bind_ok]
/-- what is no lot -/
def NoL (c : Ad) (d : D) : Prop := ∀ S, F_is_lot c [d] S = .ok (.bl false) S
theorem noL_non : NoL c .non := fun S => by simp [F_is_lot, den_is_lot, runB, env0, sSeq, sRet, sRetN, sIf, sSet, sDrop, sNx, sPar, sAsg, sAttr, sPut, sRaise, Tg.asg, Tg.asgs, eAnd, eOr, eNot, eIf, tAnd, tOr, tNot, tV, tVB, tYes, eCall, eFn, eMk, eMt, eFld, eBM, aC, aN, eV, eC, Z.e1, Z.e2, eTup, eLV, eLN, eChain, eSl, fIsi, tyD, isK, anyK, tNames, rB, tru, fLen, fTuple, fAbs, fInt, fAll, fAny, fIsN, fNotN, fIsB, fNotB, fNeg, seqOf, lstOf, isL, fLt_ii, fLe_ii, fGt_ii, fGe_ii, fSub_ii, fPlus, fMod_ii, fMul_ii, fDiv_ii, fEq, fNe, eqD_int, fIx, atI_0, atI_1, atI_2, lLc, lLc2, iSeq, iCall, fEnum, fZip, wipeD, putD, lSl, lRev, R.to_ok, R.bind_ok]
theorem noL_lst (ds : List D) : NoL c (.lst ds) := fun S => by simp [F_is_lot, den_is_lot, runB, env0, sSeq, sRet, sRetN, sIf, sSet, sDrop, sNx, sPar, sAsg, sAttr, sPut, sRaise, Tg.asg, Tg.asgs, eAnd, eOr, eNot, eIf, tAnd, tOr, tNot, tV, tVB, tYes, eCall, eFn, eMk, eMt, eFld, eBM, aC, aN, eV, eC, Z.e1, Z.e2, eTup, eLV, eLN, eChain, eSl, fIsi, tyD, isK, anyK, tNames, rB, tru, fLen, fTuple, fAbs, fInt, fAll, fAny, fIsN, fNotN, fIsB, fNotB, fNeg, seqOf, lstOf, isL, fLt_ii, fLe_ii, fGt_ii, fGe_ii, fSub_ii, fPlus, fMod_ii, fMul_ii, fDiv_ii, fEq, fNe, eqD_int, fIx, atI_0, atI_1, atI_2, lLc, lLc2, iSeq, iCall, fEnum, fZip, wipeD, putD, lSl, lRev, R.to_ok, R.bind_ok]
theorem noL_tr : NoL c (.tup [.bl true]) := fun S => by simp [F_is_lot, den_is_lot, dl_is_number, lcI, is_number_no c _ (noI_bl c true), bools, runB, env0, sSeq, sRet, sRetN, sIf, sSet, sDrop, sNx, sPar, sAsg, sAttr, sPut, sRaise, Tg.asg, Tg.asgs, eAnd, eOr, eNot, eIf, tAnd, tOr, tNot, tV, tVB, tYes, eCall, eFn, eMk, eMt, eFld, eBM, aC, aN, eV, eC, Z.e1, Z.e2, eTup, eLV, eLN, eChain, eSl, fIsi, tyD, isK, anyK, tNames, rB, tru, fLen, fTuple, fAbs, fInt, fAll, fAny, fIsN, fNotN, fIsB, fNotB, fNeg, seqOf, lstOf, isL, fLt_ii, fLe_ii, fGt_ii, fGe_ii, fSub_ii, fPlus, fMod_ii, fMul_ii, fDiv_ii, fEq, fNe, eqD_int, fIx, atI_0, atI_1, atI_2, lLc, lLc2, iSeq, iCall, fEnum, fZip, wipeD, putD, lSl, lRev, R.to_ok, R.bind_ok]
theorem noL_m1 : NoL c (.tup [.int (-1)]) := fun S => by simp [F_is_lot, den_is_lot, dl_is_number, lcI, is_number_n, bools, runB, env0, sSeq, sRet, sRetN, sIf, sSet, sDrop, sNx, sPar, sAsg, sAttr, sPut, sRaise, Tg.asg, Tg.asgs, eAnd, eOr, eNot, eIf, tAnd, tOr, tNot, tV, tVB, tYes, eCall, eFn, eMk, eMt, eFld, eBM, aC, aN, eV, eC, Z.e1, Z.e2, eTup, eLV, eLN, eChain, eSl, fIsi, tyD, isK, anyK, tNames, rB, tru, fLen, fTuple, fAbs, fInt, fAll, fAny, fIsN, fNotN, fIsB, fNotB, fNeg, seqOf, lstOf, isL, fLt_ii, fLe_ii, fGt_ii, fGe_ii, fSub_ii, fPlus, fMod_ii, fMul_ii, fDiv_ii, fEq, fNe, eqD_int, fIx, atI_0, atI_1, atI_2, lLc, lLc2, iSeq, iCall, fEnum, fZip, wipeD, putD, lSl, lRev, R.to_ok, R.bind_ok]
theorem noL_00 : NoL c (.tup [.int 0, .int 0]) := fun S => by simp [F_is_lot, den_is_lot, dl_is_number, dl_is_ascending, F_is_ascending, den_is_ascending, lcI, is_number_n, bools, iR2, rgOk, iRow, List.range_succ, runB, env0, sSeq, sRet, sRetN, sIf, sSet, sDrop, sNx, sPar, sAsg, sAttr, sPut, sRaise, Tg.asg, Tg.asgs, eAnd, eOr, eNot, eIf, tAnd, tOr, tNot, tV, tVB, tYes, eCall, eFn, eMk, eMt, eFld, eBM, aC, aN, eV, eC, Z.e1, Z.e2, eTup, eLV, eLN, eChain, eSl, fIsi, tyD, isK, anyK, tNames, rB, tru, fLen, fTuple, fAbs, fInt, fAll, fAny, fIsN, fNotN, fIsB, fNotB, fNeg, seqOf, lstOf, isL, fLt_ii, fLe_ii, fGt_ii, fGe_ii, fSub_ii, fPlus, fMod_ii, fMul_ii, fDiv_ii, fEq, fNe, eqD_int, fIx, atI_0, atI_1, atI_2, lLc, lLc2, iSeq, iCall, fEnum, fZip, wipeD, putD, lSl, lRev, R.to_ok, R.bind_ok]
theorem noL_10 : NoL c (.tup [.int 1, .int 0]) := fun S => by simp [F_is_lot, den_is_lot, dl_is_number, dl_is_ascending, F_is_ascending, den_is_ascending, lcI, is_number_n, bools, iR2, rgOk, iRow, List.range_succ, runB, env0, sSeq, sRet, sRetN, sIf, sSet, sDrop, sNx, sPar, sAsg, sAttr, sPut, sRaise, Tg.asg, Tg.asgs, eAnd, eOr, eNot, eIf, tAnd, tOr, tNot, tV, tVB, tYes, eCall, eFn, eMk, eMt, eFld, eBM, aC, aN, eV, eC, Z.e1, Z.e2, eTup, eLV, eLN, eChain, eSl, fIsi, tyD, isK, anyK, tNames, rB, tru, fLen, fTuple, fAbs, fInt, fAll, fAny, fIsN, fNotN, fIsB, fNotB, fNeg, seqOf, lstOf, isL, fLt_ii, fLe_ii, fGt_ii, fGe_ii, fSub_ii, fPlus, fMod_ii, fMul_ii, fDiv_ii, fEq, fNe, eqD_int, fIx, atI_0, atI_1, atI_2, lLc, lLc2, iSeq, iCall, fEnum, fZip, wipeD, putD, lSl, lRev, R.to_ok, R.bind_ok]
end Z.k64
namespace Z.k64
open PySem L2 Z
variable (c : Ad) (S : Sto)
theorem scr_len (ns : List Int) : (scrD ns).length = ns.length := by simp [scrD]
theorem scr_at {ns : List Int} {i : Nat} {x : Int} (h : ns[i]? = some x) : (scrD ns)[i]? = some (.int x) := by simp [scrD, h]
theorem box_i (ns : List Int) (k : Nat) : ∃ z st : Int, F__law_box c [.scr (scrD ns), .int k] S = .ok (.ref S.length) (S ++ [boxO z st 0]) := by
  have p60 : powOk 10 60 = true := by decide +kernel
  have p18 : powOk 10 18 = true := by decide +kernel
  have m1 : mulOk (10 ^ 60) (10 ^ 60) = true := by decide +kernel
  have m2 : mulOk (10 ^ 60 * 10 ^ 60) (10 ^ 60) = true := by decide +kernel
  have m3 : ∀ i : Int, mulOk 4703 i = true := fun i => mulOk_l (by decide)
  have m4 : ∀ i : Int, mulOk i 59009 = true := fun i => mulOk_r (by decide)
  have m5 : ∀ i : Int, mulOk i 33023 = true := fun i => mulOk_r (by decide)
  have m6 : ∀ i : Int, mulOk 43019 i = true := fun i => mulOk_l (by decide)
  obtain ⟨G, hG, hGe⟩ : ∃ G : Int, 0 < G ∧ ∀ ρ S, (Z.e2 fMul (Z.e2 fMul (Z.e2 fPow (eC (.int 10)) (eC (.int 60))) (Z.e2 fPow (eC (.int 10)) (eC (.int 60)))) (Z.e2 fPow (eC (.int 10)) (eC (.int 60)))) ρ S = .ok (.int G) S := by
    refine ⟨10 ^ 60 * 10 ^ 60 * 10 ^ 60, by decide +kernel, fun ρ S => ?_⟩
    simp only [Z.e2, eC, R.bind_ok, fPow_ii, if_pos p60]
    have e60 : ((10 : Int) ^ (60 : Int).toNat) = 10 ^ 60 := rfl
    rw [e60]
    simp only [fMul_ii, m1, if_true, R.bind_ok, m2]
  obtain ⟨TH, hTH⟩ : ∃ TH : Int, ∀ S, fPow (.int 10) (.int 18) S = .ok (.int TH) S := ⟨10 ^ 18, fun S => by
    rw [fPow_ii, if_pos p18]
    rfl⟩
  obtain ⟨GE, hGE⟩ : ∃ GE : DE, GE = (Z.e2 fMul (Z.e2 fMul (Z.e2 fPow (eC (.int 10)) (eC (.int 60))) (Z.e2 fPow (eC (.int 10)) (eC (.int 60)))) (Z.e2 fPow (eC (.int 10)) (eC (.int 60)))) := ⟨_, rfl⟩
  rw [← hGE] at hGe
  have mid : ∀ c0 : Int, ∃ cell : Int, (sIf (tVB (Z.e2 fLt (eV 1) (eCall fLen (aC (eV 0) aN)))) (sSet 2 (Z.e2 fMod (eCall fInt (aC (eCall fAbs (aC (Z.e2 fIx (eV 0) (eV 1)) aN)) aN)) GE)) (sIf (tVB (Z.e2 fGt (eCall fLen (aC (eV 0) aN)) (eC (.int 0)))) (sSet 2 (Z.e2 fPlus (eV 2) (Z.e2 fMul (Z.e2 fMod (eCall fInt (aC (eCall fAbs (aC (Z.e2 fIx (eV 0) (Z.e2 fMod (eCall fInt (aC (eV 1) aN)) (eCall fLen (aC (eV 0) aN)))) aN)) aN)) (eC (.int 2147483629))) (eC (.int 59009))))) sNx)) [some (.scr (scrD ns)), some (.int (k : Nat)), some (.int c0)] S = .nx [some (.scr (scrD ns)), some (.int (k : Nat)), some (.int cell)] S := by
    intro c0
    by_cases g : k < ns.length
    · obtain ⟨x, hx⟩ := get_of g
      have hx' := scr_at hx
      have g' : (k : Int) < (ns.length : Int) := by omega
      refine ⟨(if x < 0 then -x else x) % G, ?_⟩
      simp [g', scr_len, atI_nat, hx', hGe, hG, runB, env0, sSeq, sRet, sRetN, sIf, sSet, sDrop, sNx, sPar, sAsg, sAttr, sPut, sRaise, Tg.asg, Tg.asgs, eAnd, eOr, eNot, eIf, tAnd, tOr, tNot, tV, tVB, tYes, eCall, eFn, eMk, eMt, eFld, eBM, aC, aN, eV, eC, Z.e1, Z.e2, eTup, eLV, eLN, eChain, eSl, fIsi, tyD, isK, anyK, tNames, rB, tru, fLen, fTuple, fAbs, fInt, fAll, fAny, fIsN, fNotN, fIsB, fNotB, fNeg, seqOf, lstOf, isL, fLt_ii, fLe_ii, fGt_ii, fGe_ii, fSub_ii, fPlus, fMod_ii, fMul_ii, fDiv_ii, fEq, fNe, eqD_int, fIx, atI_0, atI_1, atI_2, lLc, lLc2, iSeq, iCall, fEnum, fZip, wipeD, putD, lSl, lRev, R.to_ok, R.bind_ok]
    · have g' : ¬ (k : Int) < (ns.length : Int) := by omega
      by_cases g2 : 0 < ns.length
      · have g2' : (0 : Int) < (ns.length : Int) := by omega
        obtain ⟨x, hx⟩ := get_of (Nat.mod_lt k g2)
        have hx' := scr_at hx
        have em : ((k : Nat) : Int) % (ns.length : Int) = ((k % ns.length : Nat) : Int) := by omega
        refine ⟨c0 + (if x < 0 then -x else x) % 2147483629 * 59009, ?_⟩
        have hat : L2.atI (scrD ns) ((k : Int) % (ns.length : Int)) = some (.int x) := by rw [em, atI_nat, hx']
        clear em
        simp [g', g2', g2, m4, scr_len, hat, runB, env0, sSeq, sRet, sRetN, sIf, sSet, sDrop, sNx, sPar, sAsg, sAttr, sPut, sRaise, Tg.asg, Tg.asgs, eAnd, eOr, eNot, eIf, tAnd, tOr, tNot, tV, tVB, tYes, eCall, eFn, eMk, eMt, eFld, eBM, aC, aN, eV, eC, Z.e1, Z.e2, eTup, eLV, eLN, eChain, eSl, fIsi, tyD, isK, anyK, tNames, rB, tru, fLen, fTuple, fAbs, fInt, fAll, fAny, fIsN, fNotN, fIsB, fNotB, fNeg, seqOf, lstOf, isL, fLt_ii, fLe_ii, fGt_ii, fGe_ii, fSub_ii, fPlus, fMod_ii, fMul_ii, fDiv_ii, fEq, fNe, eqD_int, fIx, atI_0, atI_1, atI_2, lLc, lLc2, iSeq, iCall, fEnum, fZip, wipeD, putD, lSl, lRev, R.to_ok, R.bind_ok]
      · have g2' : ¬ (0 : Int) < (ns.length : Int) := by omega
        refine ⟨c0, ?_⟩
        simp [g', g2', g2, scr_len, runB, env0, sSeq, sRet, sRetN, sIf, sSet, sDrop, sNx, sPar, sAsg, sAttr, sPut, sRaise, Tg.asg, Tg.asgs, eAnd, eOr, eNot, eIf, tAnd, tOr, tNot, tV, tVB, tYes, eCall, eFn, eMk, eMt, eFld, eBM, aC, aN, eV, eC, Z.e1, Z.e2, eTup, eLV, eLN, eChain, eSl, fIsi, tyD, isK, anyK, tNames, rB, tru, fLen, fTuple, fAbs, fInt, fAll, fAny, fIsN, fNotN, fIsB, fNotB, fNeg, seqOf, lstOf, isL, fLt_ii, fLe_ii, fGt_ii, fGe_ii, fSub_ii, fPlus, fMod_ii, fMul_ii, fDiv_ii, fEq, fNe, eqD_int, fIx, atI_0, atI_1, atI_2, lLc, lLc2, iSeq, iCall, fEnum, fZip, wipeD, putD, lSl, lRev, R.to_ok, R.bind_ok]
  obtain ⟨cell, hc⟩ := mid (4703 * (k : Int) + 2909)
  refine ⟨if TH ≤ cell then cell else 0, (cell % 2147483629 * 33023 + 43019 * (k : Int)) % 2147483629 + 1, ?_⟩
  show runB 3 (den__law_box c) [.scr (scrD ns), .int k] S = _
  refine run_rt ?_
  unfold den__law_box
  rw [← hGE]
  show sSeq _ _ [some (.scr (scrD ns)), some (.int (k : Nat)), none] S = _
  rw [seq_set (d := .int (4703 * (k : Int) + 2909)) (S' := S) (by simp [m3, runB, env0, sSeq, sRet, sRetN, sIf, sSet, sDrop, sNx, sPar, sAsg, sAttr, sPut, sRaise, Tg.asg, Tg.asgs, eAnd, eOr, eNot, eIf, tAnd, tOr, tNot, tV, tVB, tYes, eCall, eFn, eMk, eMt, eFld, eBM, aC, aN, eV, eC, Z.e1, Z.e2, eTup, eLV, eLN, eChain, eSl, fIsi, tyD, isK, anyK, tNames, rB, tru, fLen, fTuple, fAbs, fInt, fAll, fAny, fIsN, fNotN, fIsB, fNotB, fNeg, seqOf, lstOf, isL, fLt_ii, fLe_ii, fGt_ii, fGe_ii, fSub_ii, fPlus, fMod_ii, fMul_ii, fDiv_ii, fEq, fNe, eqD_int, fIx, atI_0, atI_1, atI_2, lLc, lLc2, iSeq, iCall, fEnum, fZip, wipeD, putD, lSl, lRev, R.to_ok, R.bind_ok])]
  refine Eq.trans (seq_nx hc) ?_
  refine ret_rt ?_
  by_cases g : TH ≤ cell
  · simp [hTH, g, m5, m6, atI_1, boxO, runB, env0, sSeq, sRet, sRetN, sIf, sSet, sDrop, sNx, sPar, sAsg, sAttr, sPut, sRaise, Tg.asg, Tg.asgs, eAnd, eOr, eNot, eIf, tAnd, tOr, tNot, tV, tVB, tYes, eCall, eFn, eMk, eMt, eFld, eBM, aC, aN, eV, eC, Z.e1, Z.e2, eTup, eLV, eLN, eChain, eSl, fIsi, tyD, isK, anyK, tNames, rB, tru, fLen, fTuple, fAbs, fInt, fAll, fAny, fIsN, fNotN, fIsB, fNotB, fNeg, seqOf, lstOf, isL, fLt_ii, fLe_ii, fGt_ii, fGe_ii, fSub_ii, fPlus, fMod_ii, fMul_ii, fDiv_ii, fEq, fNe, eqD_int, fIx, atI_0, atI_1, atI_2, lLc, lLc2, iSeq, iCall, fEnum, fZip, wipeD, putD, lSl, lRev, R.to_ok, R.bind_ok]
  · simp [hTH, g, m5, m6, atI_0, boxO, runB, env0, sSeq, sRet, sRetN, sIf, sSet, sDrop, sNx, sPar, sAsg, sAttr, sPut, sRaise, Tg.asg, Tg.asgs, eAnd, eOr, eNot, eIf, tAnd, tOr, tNot, tV, tVB, tYes, eCall, eFn, eMk, eMt, eFld, eBM, aC, aN, eV, eC, Z.e1, Z.e2, eTup, eLV, eLN, eChain, eSl, fIsi, tyD, isK, anyK, tNames, rB, tru, fLen, fTuple, fAbs, fInt, fAll, fAny, fIsN, fNotN, fIsB, fNotB, fNeg, seqOf, lstOf, isL, fLt_ii, fLe_ii, fGt_ii, fGe_ii, fSub_ii, fPlus, fMod_ii, fMul_ii, fDiv_ii, fEq, fNe, eqD_int, fIx, atI_0, atI_1, atI_2, lLc, lLc2, iSeq, iCall, fEnum, fZip, wipeD, putD, lSl, lRev, R.to_ok, R.bind_ok]
end Z.k64
namespace Z.k64
open PySem L2 Z
variable (c : Ad) (S : Sto)
/-! ### disks -/
def dO (c : Ad) (ce wa : Nat) : O := .ins c.CutDisk [("cells", .ref ce), ("waiting", .ref wa)]
def wD (q : List (Nat × D)) : List D := q.map fun p => .tup [.int (p.1 : Nat), p.2]
theorem wc_ne : (("waiting" : Str) == "cells") = false := by decide +kernel
theorem wc_ne2 : ¬ ("waiting" : Str) = "cells" := by decide +kernel
theorem cw_ne2 : ¬ ("cells" : Str) = "waiting" := by decide +kernel
theorem look_cells (a b : D) : List.lookup ("cells" : Str) [(("cells" : Str), a), (("waiting" : Str), b)] = some a := by simp [List.lookup]
theorem look_waiting (a b : D) : List.lookup ("waiting" : Str) [(("cells" : Str), a), (("waiting" : Str), b)] = some b := by simp [List.lookup, wc_ne]
theorem rep_non (n : Nat) : (List.replicate n [D.non]).flatten = List.replicate n .non := by
  induction n with
  | zero => rfl
  | succ n ih => rw [List.replicate_succ, List.flatten_cons, ih, List.replicate_succ]; rfl
theorem mk_ok {n : Nat} (h1 : 3 ≤ n) (h2 : n ≤ 40) : F_CutDisk_mk c [.ref S.length, .int n] (S ++ [.ins c.CutDisk []]) = .ok .non (S ++ [dO c (S.length + 1) (S.length + 2), .lst (List.replicate n .non), .lst []]) := by
  have e := is_number_i c (S ++ [.ins c.CutDisk []]) (n : Nat) 40
  have g1 : ((0 : Int) ≤ (n : Int)) := by omega
  have g2 : ((n : Int) ≤ 40) := by omega
  have g3 : ¬ ((n : Int) < 3) := by omega
  have g4 : ((n : Int) ≤ 1000) := by omega
  rw [decide_eq_true g1, decide_eq_true g2] at e
  have r := rep_non n
  simp [F_CutDisk_mk, den_CutDisk_mk, dl_is_number, e, g3, g4, lRep, gRep, lstH, r, cw_ne2, wc_ne2, dO, runB, env0, sSeq, sRet, sRetN, sIf, sSet, sDrop, sNx, sPar, sAsg, sAttr, sPut, sRaise, Tg.asg, Tg.asgs, eAnd, eOr, eNot, eIf, tAnd, tOr, tNot, tV, tVB, tYes, eCall, eFn, eMk, eMt, eFld, eBM, aC, aN, eV, eC, Z.e1, Z.e2, eTup, eLV, eLN, eChain, eSl, fIsi, tyD, isK, anyK, tNames, rB, tru, fLen, fTuple, fAbs, fInt, fAll, fAny, fIsN, fNotN, fIsB, fNotB, fNeg, seqOf, lstOf, isL, fLt_ii, fLe_ii, fGt_ii, fGe_ii, fSub_ii, fPlus, fMod_ii, fMul_ii, fDiv_ii, fEq, fNe, eqD_int, fIx, atI_0, atI_1, atI_2, lLc, lLc2, iSeq, iCall, fEnum, fZip, wipeD, putD, lSl, lRev, R.to_ok, R.bind_ok]
theorem mk_bad {d : D} (h : F_is_number c [d, .int 40] S = .ok (.bl false) S ∨ ∃ k : Int, d = .int k ∧ k < 3) (r : D) : F_CutDisk_mk c [r, d] S = .exc c.Refused (.str "slots") S := by
  rcases h with h | ⟨k, rfl, h2⟩
  · simp [F_CutDisk_mk, den_CutDisk_mk, dl_is_number, h, runB, env0, sSeq, sRet, sRetN, sIf, sSet, sDrop, sNx, sPar, sAsg, sAttr, sPut, sRaise, Tg.asg, Tg.asgs, eAnd, eOr, eNot, eIf, tAnd, tOr, tNot, tV, tVB, tYes, eCall, eFn, eMk, eMt, eFld, eBM, aC, aN, eV, eC, Z.e1, Z.e2, eTup, eLV, eLN, eChain, eSl, fIsi, tyD, isK, anyK, tNames, rB, tru, fLen, fTuple, fAbs, fInt, fAll, fAny, fIsN, fNotN, fIsB, fNotB, fNeg, seqOf, lstOf, isL, fLt_ii, fLe_ii, fGt_ii, fGe_ii, fSub_ii, fPlus, fMod_ii, fMul_ii, fDiv_ii, fEq, fNe, eqD_int, fIx, atI_0, atI_1, atI_2, lLc, lLc2, iSeq, iCall, fEnum, fZip, wipeD, putD, lSl, lRev, R.to_ok, R.bind_ok]
  · have e := is_number_i c S k 40
    cases q : (decide (0 ≤ k) && decide (k ≤ 40)) with
    | false =>
      rw [q] at e
      simp [F_CutDisk_mk, den_CutDisk_mk, dl_is_number, e, runB, env0, sSeq, sRet, sRetN, sIf, sSet, sDrop, sNx, sPar, sAsg, sAttr, sPut, sRaise, Tg.asg, Tg.asgs, eAnd, eOr, eNot, eIf, tAnd, tOr, tNot, tV, tVB, tYes, eCall, eFn, eMk, eMt, eFld, eBM, aC, aN, eV, eC, Z.e1, Z.e2, eTup, eLV, eLN, eChain, eSl, fIsi, tyD, isK, anyK, tNames, rB, tru, fLen, fTuple, fAbs, fInt, fAll, fAny, fIsN, fNotN, fIsB, fNotB, fNeg, seqOf, lstOf, isL, fLt_ii, fLe_ii, fGt_ii, fGe_ii, fSub_ii, fPlus, fMod_ii, fMul_ii, fDiv_ii, fEq, fNe, eqD_int, fIx, atI_0, atI_1, atI_2, lLc, lLc2, iSeq, iCall, fEnum, fZip, wipeD, putD, lSl, lRev, R.to_ok, R.bind_ok]
    | true =>
      rw [q] at e
      simp [F_CutDisk_mk, den_CutDisk_mk, dl_is_number, e, h2, runB, env0, sSeq, sRet, sRetN, sIf, sSet, sDrop, sNx, sPar, sAsg, sAttr, sPut, sRaise, Tg.asg, Tg.asgs, eAnd, eOr, eNot, eIf, tAnd, tOr, tNot, tV, tVB, tYes, eCall, eFn, eMk, eMt, eFld, eBM, aC, aN, eV, eC, Z.e1, Z.e2, eTup, eLV, eLN, eChain, eSl, fIsi, tyD, isK, anyK, tNames, rB, tru, fLen, fTuple, fAbs, fInt, fAll, fAny, fIsN, fNotN, fIsB, fNotB, fNeg, seqOf, lstOf, isL, fLt_ii, fLe_ii, fGt_ii, fGe_ii, fSub_ii, fPlus, fMod_ii, fMul_ii, fDiv_ii, fEq, fNe, eqD_int, fIx, atI_0, atI_1, atI_2, lLc, lLc2, iSeq, iCall, fEnum, fZip, wipeD, putD, lSl, lRev, R.to_ok, R.bind_ok]
section
variable {d ce wa : Nat} {cs ws : List D}
theorem size_i (hd : S[d]? = some (dO c ce wa)) (hc : S[ce]? = some (.lst cs)) : F_CutDisk_size c [.ref d] S = .ok (.int cs.length) S := by
  simp [F_CutDisk_size, den_CutDisk_size, hd, hc, dO, look_cells, runB, env0, sSeq, sRet, sRetN, sIf, sSet, sDrop, sNx, sPar, sAsg, sAttr, sPut, sRaise, Tg.asg, Tg.asgs, eAnd, eOr, eNot, eIf, tAnd, tOr, tNot, tV, tVB, tYes, eCall, eFn, eMk, eMt, eFld, eBM, aC, aN, eV, eC, Z.e1, Z.e2, eTup, eLV, eLN, eChain, eSl, fIsi, tyD, isK, anyK, tNames, rB, tru, fLen, fTuple, fAbs, fInt, fAll, fAny, fIsN, fNotN, fIsB, fNotB, fNeg, seqOf, lstOf, isL, fLt_ii, fLe_ii, fGt_ii, fGe_ii, fSub_ii, fPlus, fMod_ii, fMul_ii, fDiv_ii, fEq, fNe, eqD_int, fIx, atI_0, atI_1, atI_2, lLc, lLc2, iSeq, iCall, fEnum, fZip, wipeD, putD, lSl, lRev, R.to_ok, R.bind_ok]
theorem read_i (hd : S[d]? = some (dO c ce wa)) (hc : S[ce]? = some (.lst cs)) {i : Nat} {x : D} (hx : cs[i]? = some x) : F_CutDisk_read c [.ref d, .int i] S = .ok x S := by
  simp [F_CutDisk_read, den_CutDisk_read, hd, hc, dO, look_cells, atI_nat, hx, runB, env0, sSeq, sRet, sRetN, sIf, sSet, sDrop, sNx, sPar, sAsg, sAttr, sPut, sRaise, Tg.asg, Tg.asgs, eAnd, eOr, eNot, eIf, tAnd, tOr, tNot, tV, tVB, tYes, eCall, eFn, eMk, eMt, eFld, eBM, aC, aN, eV, eC, Z.e1, Z.e2, eTup, eLV, eLN, eChain, eSl, fIsi, tyD, isK, anyK, tNames, rB, tru, fLen, fTuple, fAbs, fInt, fAll, fAny, fIsN, fNotN, fIsB, fNotB, fNeg, seqOf, lstOf, isL, fLt_ii, fLe_ii, fGt_ii, fGe_ii, fSub_ii, fPlus, fMod_ii, fMul_ii, fDiv_ii, fEq, fNe, eqD_int, fIx, atI_0, atI_1, atI_2, lLc, lLc2, iSeq, iCall, fEnum, fZip, wipeD, putD, lSl, lRev, R.to_ok, R.bind_ok]
theorem waits_i (hd : S[d]? = some (dO c ce wa)) (hw : S[wa]? = some (.lst ws)) : F_CutDisk_waits c [.ref d] S = .ok (.int ws.length) S := by
  simp [F_CutDisk_waits, den_CutDisk_waits, hd, hw, dO, look_waiting, runB, env0, sSeq, sRet, sRetN, sIf, sSet, sDrop, sNx, sPar, sAsg, sAttr, sPut, sRaise, Tg.asg, Tg.asgs, eAnd, eOr, eNot, eIf, tAnd, tOr, tNot, tV, tVB, tYes, eCall, eFn, eMk, eMt, eFld, eBM, aC, aN, eV, eC, Z.e1, Z.e2, eTup, eLV, eLN, eChain, eSl, fIsi, tyD, isK, anyK, tNames, rB, tru, fLen, fTuple, fAbs, fInt, fAll, fAny, fIsN, fNotN, fIsB, fNotB, fNeg, seqOf, lstOf, isL, fLt_ii, fLe_ii, fGt_ii, fGe_ii, fSub_ii, fPlus, fMod_ii, fMul_ii, fDiv_ii, fEq, fNe, eqD_int, fIx, atI_0, atI_1, atI_2, lLc, lLc2, iSeq, iCall, fEnum, fZip, wipeD, putD, lSl, lRev, R.to_ok, R.bind_ok]
theorem put_i (hd : S[d]? = some (dO c ce wa)) (hw : S[wa]? = some (.lst ws)) (hl : ws.length < 1000000) (x y : D) : F_CutDisk_put c [.ref d, x, y] S = .ok .non (S.set wa (.lst (ws ++ [.tup [x, y]]))) := by
  have hl' : ws.length < 16777216 := by omega
  simp [F_CutDisk_put, den_CutDisk_put, eBM, isL, fApp, hd, hw, hl', dO, look_waiting, runB, env0, sSeq, sRet, sRetN, sIf, sSet, sDrop, sNx, sPar, sAsg, sAttr, sPut, sRaise, Tg.asg, Tg.asgs, eAnd, eOr, eNot, eIf, tAnd, tOr, tNot, tV, tVB, tYes, eCall, eFn, eMk, eMt, eFld, eBM, aC, aN, eV, eC, Z.e1, Z.e2, eTup, eLV, eLN, eChain, eSl, fIsi, tyD, isK, anyK, tNames, rB, tru, fLen, fTuple, fAbs, fInt, fAll, fAny, fIsN, fNotN, fIsB, fNotB, fNeg, seqOf, lstOf, isL, fLt_ii, fLe_ii, fGt_ii, fGe_ii, fSub_ii, fPlus, fMod_ii, fMul_ii, fDiv_ii, fEq, fNe, eqD_int, fIx, atI_0, atI_1, atI_2, lLc, lLc2, iSeq, iCall, fEnum, fZip, wipeD, putD, lSl, lRev, R.to_ok, R.bind_ok]
end
end Z.k64
namespace Z.k64
open PySem L2 Z
variable (c : Ad) (S : Sto)
/-! ### what is kept, what is torn -/
def tornD : D := .tup [.str "torn"]
def cutS (kp tn : Nat → Bool) (cs : List D) (i : Nat) (p : Nat × D) : List D := if tn i = true then (if kp i = true then cs.set p.1 p.2 else cs).set p.1 tornD else if kp i = true then cs.set p.1 p.2 else cs
def cutT (kp tn : Nat → Bool) (cs : List D) (q : List (Nat × D)) : Nat → List D
  | 0 => cs
  | j + 1 => match q[j]? with
    | some p => cutS kp tn (cutT kp tn cs q j) j p
    | none => cutT kp tn cs q j
theorem cutS_len (kp tn : Nat → Bool) (cs : List D) (i : Nat) (p : Nat × D) : (cutS kp tn cs i p).length = cs.length := by
  unfold cutS
  split <;> split <;> simp
theorem cutT_len (kp tn : Nat → Bool) (cs : List D) (q : List (Nat × D)) : ∀ j, (cutT kp tn cs q j).length = cs.length
  | 0 => rfl
  | j + 1 => by
    unfold cutT
    cases q[j]? with
    | none => exact cutT_len kp tn cs q j
    | some p => exact (cutS_len kp tn _ j p).trans (cutT_len kp tn cs q j)
theorem set_same {S : Sto} {i : Nat} {o : O} (h : S[i]? = some o) : S.set i o = S := by
  apply List.ext_getElem?
  intro j
  by_cases e : i = j
  · subst e
    rw [set_get h, h]
  · rw [set_get_ne e]
theorem wD_get {q : List (Nat × D)} {j : Nat} {x : D} (h : (wD q)[j]? = some x) : ∃ p, q[j]? = some p ∧ x = .tup [.int (p.1 : Nat), p.2] := by
  unfold wD at h
  rw [List.getElem?_map] at h
  obtain ⟨p, hp, rfl⟩ := Option.map_eq_some_iff.mp h
  exact ⟨p, hp, rfl⟩
theorem wD_len (q : List (Nat × D)) : (wD q).length = q.length := by simp [wD]
def SlOk (n : Nat) (q : List (Nat × D)) : Prop := ∀ p ∈ q, p.1 < n
section
variable {d ce wa : Nat} {cs : List D} {q : List (Nat × D)}
theorem put_turn {X : List D} {slot : Nat} (hd : S[d]? = some (dO c ce wa)) (hc : S[ce]? = some (.lst X)) (hs : slot < X.length) {a o i : DE} {ρ : Env} {y : D} (ha : a ρ S = .ok y S) (ho : o ρ S = .ok (.ref d) S) (hi : i ρ S = .ok (.int (slot : Nat)) S) : sPut a (eFld c.cs "cells" o) i ρ S = .nx ρ (S.set ce (.lst (X.set slot y))) := by
  have e := ixN_nat X.length slot hs
  simp [sPut, ha, eFld, Z.e1, ho, hd, dO, look_cells, hi, hc, e]
theorem flush_i (hd : S[d]? = some (dO c ce wa)) (hc : S[ce]? = some (.lst cs)) (hw : S[wa]? = some (.lst (wD q))) (h1 : ce ≠ d) (h2 : ce ≠ wa) (hs : SlOk cs.length q) :
    F_CutDisk_flush c [.ref d] S = .ok .non (((S.set ce (.lst (cutT (fun _ => true) (fun _ => false) cs q q.length))) ++ [O.lst []]).set d (dO c ce S.length)) := by
  obtain ⟨ρ', S', e1, e2, b1, b2, rfl⟩ := forI_idx (tg := .tp [(.nm 1), (.nm 2)]) (chk := fun S' => S'[wa]? = some (.lst (wD q))) (b := lb_CutDisk_flush_1 c) (fun j ρ S' => S' = S.set ce (.lst (cutT (fun _ => true) (fun _ => false) cs q j)) ∧ ∃ b1 b2, ρ = [some (.ref d), b1, b2]) (wD q) [some (.ref d), none, none] S ⟨(set_same hc).symm, none, none, rfl⟩ fun j x hx ρ S1 hP => by
    obtain ⟨rfl, b1, b2, rfl⟩ := hP
    obtain ⟨p, hp, rfl⟩ := wD_get hx
    have hl := cutT_len (fun _ => true) (fun _ => false) cs q j
    have t := put_turn c (S.set ce (.lst (cutT (fun _ => true) (fun _ => false) cs q j))) (d := d) (ce := ce) (wa := wa) (X := cutT (fun _ => true) (fun _ => false) cs q j) (slot := p.1) (a := eV 2) (o := eV 0) (i := eV 1) (ρ := [some (.ref d), some (.int (p.1 : Nat)), some p.2]) (y := p.2) (by rw [set_get_ne h1]; exact hd) (set_get hc) (by rw [hl]; exact hs p (List.mem_of_getElem? hp)) (by simp [eV]) (by simp [eV]) (by simp [eV])
    have ec : cutT (fun _ => true) (fun _ => false) cs q (j + 1) = (cutT (fun _ => true) (fun _ => false) cs q j).set p.1 p.2 := by
      simp [cutT, hp, cutS]
    rw [List.set_set, ← ec] at t
    refine ⟨_, asg_p2 .., _, _, .inl (by simpa [lb_CutDisk_flush_1] using t), ?_, rfl, some (.int (p.1 : Nat)), some p.2, rfl⟩
    rw [set_get_ne h2]
    exact hw
  rw [wD_len] at e2
  subst e2
  have hd' : (S.set ce (.lst (cutT (fun _ => true) (fun _ => false) cs q q.length)))[d]? = some (dO c ce wa) := by rw [set_get_ne h1]; exact hd
  have hd2 : ((S.set ce (.lst (cutT (fun _ => true) (fun _ => false) cs q q.length))) ++ [.lst []])[d]? = some (dO c ce wa) := by
    rw [List.getElem?_append_left (get_lt hd')]
    exact hd'
  have hl : (S.set ce (.lst (cutT (fun _ => true) (fun _ => false) cs q q.length))).length = S.length := by simp
  have i1 : iSeq (eFld c.cs "waiting" (eV 0)) [some (.ref d), none, none] S = .ok (wD q, fun S' => S'[wa]? = some (.lst (wD q))) S := by
    simp [iSeq, eFld, Z.e1, eV, hd, dO, look_waiting, hw]
  show runB 3 (den_CutDisk_flush c) [.ref d] S = _
  unfold runB den_CutDisk_flush
  show (match sSeq _ _ [some (.ref d), none, none] S with
    | .nx _ S' => R.ok D.non S'
    | .rt d S' => .ok d S'
    | .exc _ c d S' => .exc c d S'
    | _ => .bad) = _
  rw [seq_nx (a := sFor (.tp [(.nm 1), (.nm 2)]) _ (lb_CutDisk_flush_1 c)) (Eq.trans (for_nx i1) e1)]
  obtain ⟨S3, hS3⟩ : ∃ S3, S3 = S.set ce (.lst (cutT (fun _ => true) (fun _ => false) cs q q.length)) := ⟨_, rfl⟩
  rw [← hS3] at hd2 hl ⊢
  have hd2' : (S3 ++ [.lst []])[d]? = some (.ins c.CutDisk [("cells", .ref ce), ("waiting", .ref wa)]) := hd2
  simp [sAttr, eLN, aN, eV, hd2', hl, putD, cw_ne2, dO]
theorem ints_natD (l : List Nat) : intsD (natD l) = some (l.map fun a : Nat => (a : Int)) := by
  have := intsD_map (l.map fun a : Nat => (a : Int))
  rw [List.map_map] at this
  exact this
theorem in_nat (p : Nat) (l : List Nat) : fInA false (.int (p : Nat)) (.tup (natD l)) S = .ok (.bl (decide (p ∈ l))) S := by
  have e : decide (((p : Nat) : Int) ∈ l.map fun a : Nat => (a : Int)) = decide (p ∈ l) := by
    refine decide_eq_decide.mpr ⟨fun h => ?_, fun h => List.mem_map.mpr ⟨p, h, rfl⟩⟩
    obtain ⟨a, ha, ea⟩ := List.mem_map.mp h
    have : a = p := by omega
    exact this ▸ ha
  have q : fInA false (.int (p : Nat)) (.tup (natD l)) S = (match intsD (natD l) with
    | some ns => .ok (.bl (if false = true then !decide (((p : Nat) : Int) ∈ ns) else decide (((p : Nat) : Int) ∈ ns))) S
    | none => .bad) := rfl
  rw [q, ints_natD, ← e]
  rfl
/-! ### which lots are let in -/
theorem lot_ok {l : List Nat} {n : Nat} (hl : Asc l) (hlt : ∀ a ∈ l, a < n) (hd : S[d]? = some (dO c ce wa)) {ws : List D} (hw : S[wa]? = some (.lst ws)) (hn : ws.length = n) (a1 a2 a4 a5 a6 : Option D) : lb_CutDisk_fall_1 c [some (.ref d), a1, a2, some (.tup (natD l)), a4, a5, a6] S = .nx [some (.ref d), a1, a2, some (.tup (natD l)), a4, a5, a6] S := by
  have e := is_lot_i c S hl
  have g1 : lcI (.nm 4) (fun _ => True) tYes (Z.e2 fLt (eV 4) (eCall fLen (aC (eFld c.cs "waiting" (eV 0)) aN))) [some (.ref d), a1, a2, some (.tup (natD l)), none, a5, a6] (natD l) S = .ok ((natD l).map fun _ => .bl true) S := lcI_map (fun _ => .bl true) trivial _ fun x hx => by
    obtain ⟨a, ha, rfl⟩ := List.mem_map.mp hx
    have lt : (a : Int) < (ws.length : Int) := by have := hlt a ha; omega
    refine ⟨_, asg_nm .., ?_⟩
    simp [Z.e2, eV, eCall, aC, aN, eFld, Z.e1, hd, dO, look_waiting, fLen, seqOf, hw, fLt_ii, lt]
  have g2 : bools ((natD l).map fun _ => D.bl true) = some ((natD l).map fun _ => true) := bools_true _
  have g3 : (natD l).length ≤ 16777216 := by rw [natD_len]; have := hl.2; omega
  obtain ⟨Q, hQ⟩ : ∃ Q : List Bool, Q = (natD l).map fun _ => true := ⟨_, rfl⟩
  have hq : Q.all id = true := by rw [hQ]; simp
  obtain ⟨BL, hBL⟩ : ∃ BL : List D, BL = (natD l).map fun _ => .bl true := ⟨_, rfl⟩
  obtain ⟨N, hN⟩ : ∃ N, N = natD l := ⟨_, rfl⟩
  rw [← hQ, ← hBL] at g2
  rw [← hBL] at g1
  rw [← hN] at e g1 g3 ⊢
  obtain ⟨LT, hLT⟩ : ∃ LT : DE, LT = (Z.e2 fLt (eV 4) (eCall fLen (aC (eFld c.cs "waiting" (eV 0)) aN))) := ⟨_, rfl⟩
  rw [← hLT] at g1
  have hA : eFn 1 (F_is_lot c) (dl_is_lot.drop 0) (aC (eV 3) aN) [some (.ref d), a1, a2, some (.tup N), a4, a5, a6] S = .ok (.bl true) S := by simp [eFn, aC, aN, eV, dl_is_lot, e]
  have hB : eCall fAll (aC (eLV (lLc (.nm 4) (iSeq (eV 3)) tYes LT [4])) aN) [some (.ref d), a1, a2, some (.tup N), a4, a5, a6] S = .ok (.bl true) S := by
    simp [eCall, aC, aN, eLV, lLc, iSeq, eV, g3, wipeD, g1, fAll, lstOf, g2, hq]
  unfold lb_CutDisk_fall_1
  rw [← hLT]
  refine Eq.trans (if_f (S' := S) ?_) rfl
  simp only [tOr, tNot, tV, hA, hB, R.bind_ok, tru]
  rfl
theorem lot_no {x : D} (h : NoL c x) (a0 a1 a2 a4 a5 a6 : Option D) : lb_CutDisk_fall_1 c [a0, a1, a2, some x, a4, a5, a6] S = .exc [a0, a1, a2, some x, a4, a5, a6] c.Refused (.str "fall") S := by
  have e := h S
  simp [lb_CutDisk_fall_1, dl_is_lot, e, runB, env0, sSeq, sRet, sRetN, sIf, sSet, sDrop, sNx, sPar, sAsg, sAttr, sPut, sRaise, Tg.asg, Tg.asgs, eAnd, eOr, eNot, eIf, tAnd, tOr, tNot, tV, tVB, tYes, eCall, eFn, eMk, eMt, eFld, eBM, aC, aN, eV, eC, Z.e1, Z.e2, eTup, eLV, eLN, eChain, eSl, fIsi, tyD, isK, anyK, tNames, rB, tru, fLen, fTuple, fAbs, fInt, fAll, fAny, fIsN, fNotN, fIsB, fNotB, fNeg, seqOf, lstOf, isL, fLt_ii, fLe_ii, fGt_ii, fGe_ii, fSub_ii, fPlus, fMod_ii, fMul_ii, fDiv_ii, fEq, fNe, eqD_int, fIx, atI_0, atI_1, atI_2, lLc, lLc2, iSeq, iCall, fEnum, fZip, wipeD, putD, lSl, lRev, R.to_ok, R.bind_ok]
theorem lot_big {n : Nat} (hd : S[d]? = some (dO c ce wa)) {ws : List D} (hw : S[wa]? = some (.lst ws)) (hn : ws.length = n) (a1 a2 a4 a5 a6 : Option D) : lb_CutDisk_fall_1 c [some (.ref d), a1, a2, some (.tup [.int n]), a4, a5, a6] S = .exc [some (.ref d), a1, a2, some (.tup [.int n]), a4, a5, a6] c.Refused (.str "fall") S := by
  have e := is_lot_i c S (l := [n]) ⟨by simp, by simp⟩
  have e' : F_is_lot c [.tup [.int n]] S = .ok (.bl true) S := e
  have hw' : S[wa]? = some (.lst ws) := hw
  have lt : ¬ (n : Int) < (ws.length : Int) := by omega
  simp [lb_CutDisk_fall_1, dl_is_lot, e', hd, dO, look_waiting, hw', lcI, lt, bools, hn, runB, env0, sSeq, sRet, sRetN, sIf, sSet, sDrop, sNx, sPar, sAsg, sAttr, sPut, sRaise, Tg.asg, Tg.asgs, eAnd, eOr, eNot, eIf, tAnd, tOr, tNot, tV, tVB, tYes, eCall, eFn, eMk, eMt, eFld, eBM, aC, aN, eV, eC, Z.e1, Z.e2, eTup, eLV, eLN, eChain, eSl, fIsi, tyD, isK, anyK, tNames, rB, tru, fLen, fTuple, fAbs, fInt, fAll, fAny, fIsN, fNotN, fIsB, fNotB, fNeg, seqOf, lstOf, isL, fLt_ii, fLe_ii, fGt_ii, fGe_ii, fSub_ii, fPlus, fMod_ii, fMul_ii, fDiv_ii, fEq, fNe, eqD_int, fIx, atI_0, atI_1, atI_2, lLc, lLc2, iSeq, iCall, fEnum, fZip, wipeD, putD, lSl, lRev, R.to_ok, R.bind_ok]
end
end Z.k64
namespace Z.k64
open PySem L2 Z
variable (c : Ad) (S : Sto)
section
variable {d ce wa : Nat} {cs : List D} {q : List (Nat × D)}
theorem runB_exc {N : Nat} {den : DS} {ds : List D} {S S' : Sto} {ρ : Env} {C : Addr} {x : D} (h : den (env0 N ds) S = .exc ρ C x S') : runB N den ds S = .exc C x S' := by simp [runB, h]
theorem runB_nx {N : Nat} {den : DS} {ds : List D} {S S' : Sto} {ρ : Env} (h : den (env0 N ds) S = .nx ρ S') : runB N den ds S = .ok .non S' := by simp [runB, h]
theorem seq_exc {a r : DS} {ρ ρ' : Env} {S S' : Sto} {C : Addr} {x : D} (h : a ρ S = .exc ρ' C x S') : sSeq a r ρ S = .exc ρ' C x S' := by simp [sSeq, h]
/-- the first lot is none -/
theorem fall_no1 (hd : S[d]? = some (dO c ce wa)) {x y : D} (h : NoL c x) : F_CutDisk_fall c [.ref d, x, y] S = .exc c.Refused (.str "fall") S := by
  have e := lot_no c S h (some (.ref d)) (some x) (some y) none none none
  refine runB_exc (ρ := [some (.ref d), some x, some y, some x, none, none, none]) ?_
  unfold den_CutDisk_fall
  show sSeq _ _ [some (.ref d), some x, some y, none, none, none, none] S = _
  refine seq_exc ?_
  have i1 : iSeq (eTup (aC (eV 1) (aC (eV 2) aN))) [some (.ref d), some x, some y, none, none, none, none] S = .ok ([x, y], fun _ => True) S := by simp [iSeq, eTup, aC, aN, eV]
  refine Eq.trans (for_nx i1) ?_
  simp [forI, Tg.asg, e]
/-- the second one -/
theorem fall_no2 (hd : S[d]? = some (dO c ce wa)) {ws : List D} (hw : S[wa]? = some (.lst ws)) {l : List Nat} (hl : Asc l) (hlt : ∀ a ∈ l, a < ws.length) {y : D} (h : NoL c y ∨ y = .tup [.int ws.length]) : F_CutDisk_fall c [.ref d, .tup (natD l), y] S = .exc c.Refused (.str "fall") S := by
  have e := lot_ok c S hl hlt hd hw rfl (some (.tup (natD l))) (some y) none none none
  have e2 : lb_CutDisk_fall_1 c [some (.ref d), some (.tup (natD l)), some y, some y, none, none, none] S = .exc [some (.ref d), some (.tup (natD l)), some y, some y, none, none, none] c.Refused (.str "fall") S := by
    rcases h with h | rfl
    · exact lot_no c S h _ _ _ _ _ _
    · exact lot_big c S hd hw rfl _ _ _ _ _
  refine runB_exc (ρ := [some (.ref d), some (.tup (natD l)), some y, some y, none, none, none]) ?_
  unfold den_CutDisk_fall
  show sSeq _ _ [some (.ref d), some (.tup (natD l)), some y, none, none, none, none] S = _
  refine seq_exc ?_
  have i1 : iSeq (eTup (aC (eV 1) (aC (eV 2) aN))) [some (.ref d), some (.tup (natD l)), some y, none, none, none, none] S = .ok ([.tup (natD l), y], fun _ => True) S := by simp [iSeq, eTup, aC, aN, eV]
  refine Eq.trans (for_nx i1) ?_
  simp [forI, Tg.asg, e, e2]
def anyB (kl tl : List Nat) : Bool := tl.any fun p => decide (p ∈ kl)
theorem any_in {kl tl : List Nat} (hl : tl.length ≤ 1000) (a0 a3 a4 a5 a6 : Option D) : tV (eCall fAny (aC (eLV (lLc (.nm 4) (iSeq (eV 2)) tYes (Z.e2 (fInA false) (eV 4) (eV 1)) [4])) aN)) [a0, some (.tup (natD kl)), some (.tup (natD tl)), a3, a4, a5, a6] S = .ok (anyB kl tl) S := by
  have g1 : lcI (.nm 4) (fun _ => True) tYes (Z.e2 (fInA false) (eV 4) (eV 1)) [a0, some (.tup (natD kl)), some (.tup (natD tl)), a3, none, a5, a6] (natD tl) S = .ok (tl.map fun p => .bl (decide (p ∈ kl))) S := by
    rw [lcI_map (fun x => match x with
      | .int p => .bl (decide (p.toNat ∈ kl))
      | _ => .non) trivial _ fun x hx => ?_]
    · unfold natD
      rw [List.map_map]
      congr 1
    · obtain ⟨p, _, rfl⟩ := List.mem_map.mp hx
      have e := in_nat S p kl
      exact ⟨_, asg_nm .., by simp [Z.e2, eV, e]⟩
  have g2 : bools (tl.map fun p => D.bl (decide (p ∈ kl))) = some (tl.map fun p => decide (p ∈ kl)) := bools_map _ _
  have g3 : (natD tl).length ≤ 16777216 := by rw [natD_len]; omega
  have g4 : (tl.map fun p => decide (p ∈ kl)).any id = anyB kl tl := by simp [anyB, List.any_map, Function.comp_def]
  obtain ⟨N, hN⟩ : ∃ N, N = natD tl := ⟨_, rfl⟩
  obtain ⟨L, hL⟩ : ∃ L : List D, L = tl.map fun p => D.bl (decide (p ∈ kl)) := ⟨_, rfl⟩
  rw [← hN] at g1 g3 ⊢
  rw [← hL] at g1 g2
  simp [tV, eCall, aC, aN, eLV, lLc, iSeq, eV, g3, wipeD, g1, fAny, lstOf, g2, g4, tru]
/-- the lots meet -/
theorem lots_ok (hd : S[d]? = some (dO c ce wa)) {ws : List D} (hw : S[wa]? = some (.lst ws)) {kl tl : List Nat} (h1 : Asc kl) (h2 : ∀ a ∈ kl, a < ws.length) (h3 : Asc tl) (h4 : ∀ a ∈ tl, a < ws.length) : sFor (.nm 3) (iSeq (eTup (aC (eV 1) (aC (eV 2) aN)))) (lb_CutDisk_fall_1 c) [some (.ref d), some (.tup (natD kl)), some (.tup (natD tl)), none, none, none, none] S = .nx [some (.ref d), some (.tup (natD kl)), some (.tup (natD tl)), some (.tup (natD tl)), none, none, none] S := by
  have e := lot_ok c S h1 h2 hd hw rfl (some (.tup (natD kl))) (some (.tup (natD tl))) none none none
  have e2 := lot_ok c S h3 h4 hd hw rfl (some (.tup (natD kl))) (some (.tup (natD tl))) none none none
  have i1 : iSeq (eTup (aC (eV 1) (aC (eV 2) aN))) [some (.ref d), some (.tup (natD kl)), some (.tup (natD tl)), none, none, none, none] S = .ok ([.tup (natD kl), .tup (natD tl)], fun _ => True) S := by simp [iSeq, eTup, aC, aN, eV]
  refine Eq.trans (for_nx i1) ?_
  simp [forI, Tg.asg, e, e2]
theorem fall_no3 (hd : S[d]? = some (dO c ce wa)) {ws : List D} (hw : S[wa]? = some (.lst ws)) {kl tl : List Nat} (h1 : Asc kl) (h2 : ∀ a ∈ kl, a < ws.length) (h3 : Asc tl) (h4 : ∀ a ∈ tl, a < ws.length) (h5 : anyB kl tl = true) : F_CutDisk_fall c [.ref d, .tup (natD kl), .tup (natD tl)] S = .exc c.Refused (.str "fall") S := by
  have e := lots_ok c S hd hw h1 h2 h3 h4
  have e2 := any_in S (kl := kl) h3.2 (some (.ref d)) (some (.tup (natD tl))) none none none
  rw [h5] at e2
  refine runB_exc (ρ := [some (.ref d), some (.tup (natD kl)), some (.tup (natD tl)), some (.tup (natD tl)), none, none, none]) ?_
  unfold den_CutDisk_fall
  show sSeq _ _ [some (.ref d), some (.tup (natD kl)), some (.tup (natD tl)), none, none, none, none] S = _
  refine Eq.trans (seq_nx e) ?_
  refine seq_exc ?_
  refine Eq.trans (if_t e2) ?_
  simp [sRaise, eC]
/-- a fall -/
theorem fall_i (hd : S[d]? = some (dO c ce wa)) (hc : S[ce]? = some (.lst cs)) (hw : S[wa]? = some (.lst (wD q))) (n1 : ce ≠ d) (n2 : ce ≠ wa) (hs : SlOk cs.length q) (hq : q.length ≤ 1000) {kl tl : List Nat} (h1 : Asc kl) (h2 : ∀ a ∈ kl, a < q.length) (h3 : Asc tl) (h4 : ∀ a ∈ tl, a < q.length) (h5 : anyB kl tl = false) :
    F_CutDisk_fall c [.ref d, .tup (natD kl), .tup (natD tl)] S = .ok .non (((S.set ce (.lst (cutT (fun i => decide (i ∈ kl)) (fun i => decide (i ∈ tl)) cs q q.length))) ++ [O.lst []]).set d (dO c ce S.length)) := by
  rw [← wD_len q] at h2 h4
  have e := lots_ok c S hd hw h1 h2 h3 h4
  have e2 := any_in S (kl := kl) h3.2 (some (.ref d)) (some (.tup (natD tl))) none none none
  rw [h5] at e2
  obtain ⟨kp, hkp⟩ : ∃ kp : Nat → Bool, kp = fun i => decide (i ∈ kl) := ⟨_, rfl⟩
  obtain ⟨tn, htn⟩ : ∃ tn : Nat → Bool, tn = fun i => decide (i ∈ tl) := ⟨_, rfl⟩
  rw [← hkp, ← htn]
  obtain ⟨ρ', S', f1, f2, b3, b4, b5, b6, rfl⟩ := forI_idx (tg := .tp [(.nm 4), (.tp [(.nm 5), (.nm 6)])]) (chk := fun S' => S'[wa]? = some (.lst (wD q))) (b := lb_CutDisk_fall_2 c) (fun j ρ S' => S' = S.set ce (.lst (cutT kp tn cs q j)) ∧ ∃ b3 b4 b5 b6, ρ = [some (.ref d), some (.tup (natD kl)), some (.tup (natD tl)), b3, b4, b5, b6]) (enumF 0 (wD q)) [some (.ref d), some (.tup (natD kl)), some (.tup (natD tl)), some (.tup (natD tl)), none, none, none] S ⟨(set_same hc).symm, _, none, none, none, rfl⟩ fun j x hx ρ S1 hP => by
    obtain ⟨rfl, b3, b4, b5, b6, rfl⟩ := hP
    obtain ⟨j', y, hy, ex⟩ := enumF_mem (List.mem_of_getElem? hx)
    have hjj : (enumF 0 (wD q))[j]? = ((wD q)[j]?).map fun y => .tup [.int (j : Nat), y] := by
      have gen : ∀ (ds : List D) (k j : Nat), (enumF k ds)[j]? = (ds[j]?).map fun y => D.tup [.int ((k + j : Nat) : Int), y] := by
        intro ds
        induction ds with
        | nil => intro k j; simp [enumF]
        | cons a ds ih =>
          intro k j
          cases j with
          | zero => simp [enumF]
          | succ j =>
            have := ih (k + 1) j
            show (enumF (k + 1) ds)[j]? = _
            rw [this]
            have e : k + 1 + j = k + (j + 1) := by omega
            rw [e]
            rfl
      have := gen (wD q) 0 j
      simpa using this
    rw [hjj] at hx
    obtain ⟨y2, hy2, rfl⟩ := Option.map_eq_some_iff.mp hx
    obtain ⟨p, hp, rfl⟩ := wD_get hy2
    have hlen := cutT_len kp tn cs q j
    have hsl := hs p (List.mem_of_getElem? hp)
    have hd1 : (S.set ce (.lst (cutT kp tn cs q j)))[d]? = some (dO c ce wa) := by rw [set_get_ne n1]; exact hd
    have hc1 : (S.set ce (.lst (cutT kp tn cs q j)))[ce]? = some (.lst (cutT kp tn cs q j)) := set_get hc
    have k1 := in_nat (S.set ce (.lst (cutT kp tn cs q j))) j kl
    obtain ⟨X, hX⟩ : ∃ X, X = (if kp j = true then (cutT kp tn cs q j).set p.1 p.2 else cutT kp tn cs q j) := ⟨_, rfl⟩
    have hXl : X.length = cs.length := by
      rw [hX]
      split <;> simp [hlen]
    have st1 : sIf (tVB (Z.e2 (fInA false) (eV 4) (eV 1))) (sPut (eV 6) (eFld c.cs "cells" (eV 0)) (eV 5)) sNx [some (.ref d), some (.tup (natD kl)), some (.tup (natD tl)), b3, some (.int (j : Nat)), some (.int (p.1 : Nat)), some p.2] (S.set ce (.lst (cutT kp tn cs q j))) = .nx [some (.ref d), some (.tup (natD kl)), some (.tup (natD tl)), b3, some (.int (j : Nat)), some (.int (p.1 : Nat)), some p.2] (S.set ce (.lst X)) := by
      have t0 : tVB (Z.e2 (fInA false) (eV 4) (eV 1)) [some (.ref d), some (.tup (natD kl)), some (.tup (natD tl)), b3, some (.int (j : Nat)), some (.int (p.1 : Nat)), some p.2] (S.set ce (.lst (cutT kp tn cs q j))) = .ok (kp j) (S.set ce (.lst (cutT kp tn cs q j))) := by
        rw [hkp]
        rw [hkp] at k1
        simp [tVB, Z.e2, eV, k1]
      cases hk : kp j with
      | true =>
        rw [hk] at t0
        rw [if_t t0]
        have t := put_turn c (S.set ce (.lst (cutT kp tn cs q j))) (slot := p.1) hd1 hc1 (by omega) (a := eV 6) (o := eV 0) (i := eV 5) (ρ := [some (.ref d), some (.tup (natD kl)), some (.tup (natD tl)), b3, some (.int (j : Nat)), some (.int (p.1 : Nat)), some p.2]) (y := p.2) (by simp [eV]) (by simp [eV]) (by simp [eV])
        rw [List.set_set] at t
        rw [t, hX, hk]
        rfl
      | false =>
        rw [hk] at t0
        rw [if_f t0, hX, hk]
        rfl
    have hd2 : (S.set ce (.lst X))[d]? = some (dO c ce wa) := by rw [set_get_ne n1]; exact hd
    have hc2 : (S.set ce (.lst X))[ce]? = some (.lst X) := set_get hc
    have k2 := in_nat (S.set ce (.lst X)) j tl
    have ec : cutT kp tn cs q (j + 1) = if tn j = true then X.set p.1 tornD else X := by
      simp only [cutT, hp, cutS, ← hX]
    have st2 : sIf (tVB (Z.e2 (fInA false) (eV 4) (eV 2))) (sPut (eC c_TORN) (eFld c.cs "cells" (eV 0)) (eV 5)) sNx [some (.ref d), some (.tup (natD kl)), some (.tup (natD tl)), b3, some (.int (j : Nat)), some (.int (p.1 : Nat)), some p.2] (S.set ce (.lst X)) = .nx [some (.ref d), some (.tup (natD kl)), some (.tup (natD tl)), b3, some (.int (j : Nat)), some (.int (p.1 : Nat)), some p.2] (S.set ce (.lst (cutT kp tn cs q (j + 1)))) := by
      have t0 : tVB (Z.e2 (fInA false) (eV 4) (eV 2)) [some (.ref d), some (.tup (natD kl)), some (.tup (natD tl)), b3, some (.int (j : Nat)), some (.int (p.1 : Nat)), some p.2] (S.set ce (.lst X)) = .ok (tn j) (S.set ce (.lst X)) := by
        rw [htn]
        simp [tVB, Z.e2, eV, k2]
      cases hk : tn j with
      | true =>
        rw [hk] at t0
        rw [if_t t0]
        have t := put_turn c (S.set ce (.lst X)) (slot := p.1) hd2 hc2 (by omega) (a := eC c_TORN) (o := eV 0) (i := eV 5) (ρ := [some (.ref d), some (.tup (natD kl)), some (.tup (natD tl)), b3, some (.int (j : Nat)), some (.int (p.1 : Nat)), some p.2]) (y := tornD) rfl (by simp [eV]) (by simp [eV])
        rw [List.set_set] at t
        rw [t, ec, hk]
        rfl
      | false =>
        rw [hk] at t0
        rw [if_f t0, ec, hk]
        rfl
    refine ⟨_, asg_n2 .., _, _, .inl (Eq.trans (seq_nx st1) st2), ?_, rfl, b3, some (.int (j : Nat)), some (.int (p.1 : Nat)), some p.2, rfl⟩
    rw [set_get_ne n2]
    exact hw
  have fl : (enumF 0 (wD q)).length = q.length := by
    have gen : ∀ (ds : List D) (k : Nat), (enumF k ds).length = ds.length := by
      intro ds
      induction ds with
      | nil => intro k; rfl
      | cons a ds ih => intro k; show (enumF (k + 1) ds).length + 1 = _; rw [ih]; rfl
    rw [gen, wD_len]
  rw [fl] at f2
  subst f2
  have hd' : (S.set ce (.lst (cutT kp tn cs q q.length)))[d]? = some (dO c ce wa) := by rw [set_get_ne n1]; exact hd
  have hd2 : ((S.set ce (.lst (cutT kp tn cs q q.length))) ++ [O.lst []])[d]? = some (dO c ce wa) := by
    rw [List.getElem?_append_left (get_lt hd')]
    exact hd'
  have hl : (S.set ce (.lst (cutT kp tn cs q q.length))).length = S.length := by simp
  have i1 : iCall fEnum (aC (eFld c.cs "waiting" (eV 0)) aN) [some (.ref d), some (.tup (natD kl)), some (.tup (natD tl)), some (.tup (natD tl)), none, none, none] S = .ok (enumF 0 (wD q), fun S' => S'[wa]? = some (.lst (wD q))) S := by
    simp [iCall, aC, aN, eFld, Z.e1, eV, hd, dO, look_waiting, fEnum, lstC, hw]
  obtain ⟨S3, hS3⟩ : ∃ S3, S3 = S.set ce (.lst (cutT kp tn cs q q.length)) := ⟨_, rfl⟩
  rw [← hS3] at f1 hd2 hl ⊢
  have hd2' : (S3 ++ [O.lst []])[d]? = some (.ins c.CutDisk [("cells", .ref ce), ("waiting", .ref wa)]) := hd2
  refine runB_nx (ρ := [some (.ref d), some (.tup (natD kl)), some (.tup (natD tl)), b3, b4, b5, b6]) ?_
  unfold den_CutDisk_fall
  show sSeq _ _ [some (.ref d), some (.tup (natD kl)), some (.tup (natD tl)), none, none, none, none] S = _
  refine Eq.trans (seq_nx e) ?_
  refine Eq.trans (seq_skip e2) ?_
  refine Eq.trans (seq_nx (a := sFor _ _ (lb_CutDisk_fall_2 c)) (Eq.trans (for_nx i1) f1)) ?_
  simp [sAttr, eLN, aN, eV, hd2', hl, putD, cw_ne2, dO]
end
end Z.k64
namespace Z.k64
open PySem L2 Z
variable (c : Ad) (S : Sto)
theorem app_get {S G : Sto} {t : Nat} {o : O} (h : S[t]? = some o) : (S ++ G)[t]? = some o := by
  rw [List.getElem?_append_left (get_lt h)]
  exact h
/-! ### the same -/
def Sm : Nat → D → Prop
  | q + 1, .non => True
  | q + 1, .int _ => True
  | q + 1, .str s => SeqAt.shaped (.str s) = true
  | q + 1, .tup ds => ds.length ≤ 1000 ∧ ∀ d ∈ ds, Sm q d
  | _, _ => False
theorem eqD_strs (s : Str) (h : SeqAt.shaped (.str s) = true) : eqD S (.str s) (.str s) = some true := by
  unfold eqD
  simp only [toP, h, and_self, if_true, PyData.eqv]
  simp
theorem idx_non : fIdx (.lst [.non, .bl true, .bl false]) [.non] S = .ok (.int 0) S := by
  have h1 : SeqAt.shaped (.list [.none, .bool true, .bool false]) = true := by decide +kernel
  have h2 : SeqAt.shaped .none = true := by decide +kernel
  simp [fIdx, toP, toPs, h1, h2, findP, PyData.eqv]
theorem same_i : ∀ (q : Nat) (d : D), Sm q d → F__law_same c q [d, d] S = .ok (.bl true) S
  | 0, d, h => by cases d <;> exact h.elim
  | q + 1, .non, _ => by
    have e := idx_non S
    simp [F__law_same, den__law_same, fIsC, eBV, isLv, e, runB, env0, sSeq, sRet, sRetN, sIf, sSet, sDrop, sNx, sPar, sAsg, sAttr, sPut, sRaise, Tg.asg, Tg.asgs, eAnd, eOr, eNot, eIf, tAnd, tOr, tNot, tV, tVB, tYes, eCall, eFn, eMk, eMt, eFld, eBM, aC, aN, eV, eC, Z.e1, Z.e2, eTup, eLV, eLN, eChain, eSl, fIsi, tyD, isK, anyK, tNames, rB, tru, fLen, fTuple, fAbs, fInt, fAll, fAny, fIsN, fNotN, fIsB, fNotB, fNeg, seqOf, lstOf, isL, fLt_ii, fLe_ii, fGt_ii, fGe_ii, fSub_ii, fPlus, fMod_ii, fMul_ii, fDiv_ii, fEq, fNe, eqD_int, fIx, atI_0, atI_1, atI_2, lLc, lLc2, iSeq, iCall, fEnum, fZip, wipeD, putD, lSl, lRev, R.to_ok, R.bind_ok]
  | q + 1, .int i, _ => by simp [F__law_same, den__law_same, fIsC, runB, env0, sSeq, sRet, sRetN, sIf, sSet, sDrop, sNx, sPar, sAsg, sAttr, sPut, sRaise, Tg.asg, Tg.asgs, eAnd, eOr, eNot, eIf, tAnd, tOr, tNot, tV, tVB, tYes, eCall, eFn, eMk, eMt, eFld, eBM, aC, aN, eV, eC, Z.e1, Z.e2, eTup, eLV, eLN, eChain, eSl, fIsi, tyD, isK, anyK, tNames, rB, tru, fLen, fTuple, fAbs, fInt, fAll, fAny, fIsN, fNotN, fIsB, fNotB, fNeg, seqOf, lstOf, isL, fLt_ii, fLe_ii, fGt_ii, fGe_ii, fSub_ii, fPlus, fMod_ii, fMul_ii, fDiv_ii, fEq, fNe, eqD_int, fIx, atI_0, atI_1, atI_2, lLc, lLc2, iSeq, iCall, fEnum, fZip, wipeD, putD, lSl, lRev, R.to_ok, R.bind_ok]
  | q + 1, .str s, h => by
    have h' : SeqAt.shaped (.str s) = true := h
    simp [F__law_same, den__law_same, fIsC, eqD_strs S s h', runB, env0, sSeq, sRet, sRetN, sIf, sSet, sDrop, sNx, sPar, sAsg, sAttr, sPut, sRaise, Tg.asg, Tg.asgs, eAnd, eOr, eNot, eIf, tAnd, tOr, tNot, tV, tVB, tYes, eCall, eFn, eMk, eMt, eFld, eBM, aC, aN, eV, eC, Z.e1, Z.e2, eTup, eLV, eLN, eChain, eSl, fIsi, tyD, isK, anyK, tNames, rB, tru, fLen, fTuple, fAbs, fInt, fAll, fAny, fIsN, fNotN, fIsB, fNotB, fNeg, seqOf, lstOf, isL, fLt_ii, fLe_ii, fGt_ii, fGe_ii, fSub_ii, fPlus, fMod_ii, fMul_ii, fDiv_ii, fEq, fNe, eqD_int, fIx, atI_0, atI_1, atI_2, lLc, lLc2, iSeq, iCall, fEnum, fZip, wipeD, putD, lSl, lRev, R.to_ok, R.bind_ok]
  | q + 1, .tup ds, ⟨h1, h2⟩ => by
    have g0 : ∀ a, iR1 (eCall fLen (aC (eV 1) aN)) [some (.tup ds), some (.tup ds), a] S = .ok (iRow 0 ds.length, fun _ => True) S := fun a => iR1_nat (by simp [eCall, aC, aN, eV, fLen, seqOf]) (by omega)
    have g1 : ∀ a, lcI (.nm 2) (fun _ => True) tYes (eFn 2 (F__law_same c q) dl__law_same (aC (Z.e2 fIx (eV 0) (eV 2)) (aC (Z.e2 fIx (eV 1) (eV 2)) aN))) [some (.tup ds), some (.tup ds), a] (iRow 0 ds.length) S = .ok ((List.range ds.length).map fun _ => .bl true) S := fun a => lcI_range (fun _ => .bl true) trivial fun i hi => by
      obtain ⟨x, hx⟩ := get_of hi
      have e := same_i q x (h2 x (List.mem_of_getElem? hx))
      simp [eFn, aC, aN, eV, Z.e2, fIx, atI_nat, hx, dl__law_same, e]
    have g2 : bools ((List.range ds.length).map fun _ => D.bl true) = some ((List.range ds.length).map fun _ => true) := bools_true _
    have g3 : (iRow 0 ds.length).length ≤ 16777216 := by rw [iRow_len]; omega
    obtain ⟨R1, hR⟩ : ∃ R1, R1 = iRow 0 ds.length := ⟨_, rfl⟩
    obtain ⟨BL, hBL⟩ : ∃ BL : List D, BL = (List.range ds.length).map fun _ => .bl true := ⟨_, rfl⟩
    obtain ⟨Q, hQ⟩ : ∃ Q : List Bool, Q = (List.range ds.length).map fun _ => true := ⟨_, rfl⟩
    have hq : Q.all id = true := by rw [hQ]; simp
    rw [← hR] at g0 g1 g3
    rw [← hBL] at g1 g2
    rw [← hQ] at g2
    simp [F__law_same, den__law_same, fIsC, g0, g1, g2, g3, hq, runB, env0, sSeq, sRet, sRetN, sIf, sSet, sDrop, sNx, sPar, sAsg, sAttr, sPut, sRaise, Tg.asg, Tg.asgs, eAnd, eOr, eNot, eIf, tAnd, tOr, tNot, tV, tVB, tYes, eCall, eFn, eMk, eMt, eFld, eBM, aC, aN, eV, eC, Z.e1, Z.e2, eTup, eLV, eLN, eChain, eSl, fIsi, tyD, isK, anyK, tNames, rB, tru, fLen, fTuple, fAbs, fInt, fAll, fAny, fIsN, fNotN, fIsB, fNotB, fNeg, seqOf, lstOf, isL, fLt_ii, fLe_ii, fGt_ii, fGe_ii, fSub_ii, fPlus, fMod_ii, fMul_ii, fDiv_ii, fEq, fNe, eqD_int, fIx, atI_0, atI_1, atI_2, lLc, lLc2, iSeq, iCall, fEnum, fZip, wipeD, putD, lSl, lRev, R.to_ok, R.bind_ok]
  | q + 1, .bl _, h => h.elim
  | q + 1, .lst _, h => h.elim
  | q + 1, .scr _, h => h.elim
  | q + 1, .ref _, h => h.elim
  | q + 1, .adr _, h => h.elim
  | q + 1, .ty _, h => h.elim
/-! ### cut, by the law -/
section
variable {cl ql : Nat} {cs : List D} {q : List (Nat × D)}
theorem cut_i (hc : S[cl]? = some (.lst cs)) (hw : S[ql]? = some (.lst (wD q))) (hs : SlOk cs.length q) (hq : q.length ≤ 1000) (hcs : cs.length ≤ 1000) {Kd Td : D} (kp tn : Nat → Bool) (hk : ∀ S j, j < q.length → fInA false (.int (j : Nat)) Kd S = .ok (.bl (kp j)) S) (ht : ∀ S j, j < q.length → fInA false (.int (j : Nat)) Td S = .ok (.bl (tn j)) S) :
    F__law_cut c [.ref cl, .ref ql, Kd, Td] S = .ok (.ref S.length) (S ++ [.lst (cutT kp tn cs q q.length)]) := by
  obtain ⟨ρ', S', f1, f2, b5, rfl⟩ := forI_idx (tg := .nm 5) (chk := fun _ => True) (b := lb__law_cut_1 c) (fun j ρ S' => S' = S ++ [.lst (cutT kp tn cs q j)] ∧ ∃ b5, ρ = [some (.ref cl), some (.ref ql), some Kd, some Td, some (.ref S.length), b5]) (iRow 0 q.length) [some (.ref cl), some (.ref ql), some Kd, some Td, some (.ref S.length), none] (S ++ [.lst cs]) ⟨rfl, none, rfl⟩ fun j x hx ρ S1 hP => by
    obtain ⟨rfl, b5, rfl⟩ := hP
    have hj := get_lt hx
    rw [iRow_len] at hj
    rw [iRow_get 0 q.length j hj] at hx
    cases hx
    have e0 : (0 : Int) + (j : Nat) = (j : Nat) := by omega
    rw [e0]
    obtain ⟨p, hp⟩ := get_of hj
    have hlen := cutT_len kp tn cs q j
    have hsl := hs p (List.mem_of_getElem? hp)
    have hwp : (wD q)[j]? = some (.tup [.int (p.1 : Nat), p.2]) := by simp [wD, hp]
    have gq : ∀ X : List D, (S ++ [.lst X])[ql]? = some (.lst (wD q)) := fun X => app_get hw
    have gf : ∀ X : List D, (S ++ [O.lst X])[S.length]? = some (.lst X) := fun X => by simp
    have sf : ∀ X Y : List D, (S ++ [O.lst X]).set S.length (.lst Y) = S ++ [.lst Y] := fun X Y => by simp
    have put : ∀ (X : List D) (a : DE) (y : D), X.length = cs.length → (∀ S, a [some (.ref cl), some (.ref ql), some Kd, some Td, some (.ref S.length), some (.int (j : Nat))] S = a [some (.ref cl), some (.ref ql), some Kd, some Td, some (.ref S.length), some (.int (j : Nat))] S) → a [some (.ref cl), some (.ref ql), some Kd, some Td, some (.ref S.length), some (.int (j : Nat))] (S ++ [.lst X]) = .ok y (S ++ [.lst X]) →
        sPut a (eV 4) (Z.e2 fIx (Z.e2 fIx (eV 1) (eV 5)) (eC (.int 0))) [some (.ref cl), some (.ref ql), some Kd, some Td, some (.ref S.length), some (.int (j : Nat))] (S ++ [.lst X]) = .nx [some (.ref cl), some (.ref ql), some Kd, some Td, some (.ref S.length), some (.int (j : Nat))] (S ++ [.lst (X.set p.1 y)]) := fun X a y hX _ ha => by
      have e := ixN_nat X.length p.1 (by omega)
      simp [sPut, ha, eV, Z.e2, eC, fIx, gq, atI_nat, hwp, atI_0, e]
    have v1 : ∀ X : List D, (Z.e2 fIx (Z.e2 fIx (eV 1) (eV 5)) (eC (.int 1))) [some (.ref cl), some (.ref ql), some Kd, some Td, some (.ref S.length), some (.int (j : Nat))] (S ++ [.lst X]) = .ok p.2 (S ++ [.lst X]) := fun X => by
      simp [eV, Z.e2, eC, fIx, gq, atI_nat, hwp, atI_1]
    obtain ⟨X, hX⟩ : ∃ X, X = (if kp j = true then (cutT kp tn cs q j).set p.1 p.2 else cutT kp tn cs q j) := ⟨_, rfl⟩
    have hXl : X.length = cs.length := by
      rw [hX]
      split <;> simp [hlen]
    have st1 : sIf (tVB (Z.e2 (fInA false) (eV 5) (eV 2))) (sPut (Z.e2 fIx (Z.e2 fIx (eV 1) (eV 5)) (eC (.int 1))) (eV 4) (Z.e2 fIx (Z.e2 fIx (eV 1) (eV 5)) (eC (.int 0)))) sNx [some (.ref cl), some (.ref ql), some Kd, some Td, some (.ref S.length), some (.int (j : Nat))] (S ++ [.lst (cutT kp tn cs q j)]) = .nx [some (.ref cl), some (.ref ql), some Kd, some Td, some (.ref S.length), some (.int (j : Nat))] (S ++ [.lst X]) := by
      have t0 : tVB (Z.e2 (fInA false) (eV 5) (eV 2)) [some (.ref cl), some (.ref ql), some Kd, some Td, some (.ref S.length), some (.int (j : Nat))] (S ++ [.lst (cutT kp tn cs q j)]) = .ok (kp j) (S ++ [.lst (cutT kp tn cs q j)]) := by
        simp [tVB, Z.e2, eV, hk _ j hj]
      cases hkj : kp j with
      | true =>
        rw [hkj] at t0
        rw [if_t t0, put _ _ p.2 hlen (fun _ => rfl) (v1 _), hX, hkj]
        rfl
      | false =>
        rw [hkj] at t0
        rw [if_f t0, hX, hkj]
        rfl
    have ec : cutT kp tn cs q (j + 1) = if tn j = true then X.set p.1 tornD else X := by
      simp only [cutT, hp, cutS, ← hX]
    have st2 : sIf (tVB (Z.e2 (fInA false) (eV 5) (eV 3))) (sPut (eTup (aC (eC (.str "torn")) aN)) (eV 4) (Z.e2 fIx (Z.e2 fIx (eV 1) (eV 5)) (eC (.int 0)))) sNx [some (.ref cl), some (.ref ql), some Kd, some Td, some (.ref S.length), some (.int (j : Nat))] (S ++ [.lst X]) = .nx [some (.ref cl), some (.ref ql), some Kd, some Td, some (.ref S.length), some (.int (j : Nat))] (S ++ [.lst (cutT kp tn cs q (j + 1))]) := by
      have t0 : tVB (Z.e2 (fInA false) (eV 5) (eV 3)) [some (.ref cl), some (.ref ql), some Kd, some Td, some (.ref S.length), some (.int (j : Nat))] (S ++ [.lst X]) = .ok (tn j) (S ++ [.lst X]) := by
        simp [tVB, Z.e2, eV, ht _ j hj]
      cases hkj : tn j with
      | true =>
        rw [hkj] at t0
        rw [if_t t0, put _ _ tornD hXl (fun _ => rfl) (by simp [eTup, aC, aN, eC, tornD]), ec, hkj]
        rfl
      | false =>
        rw [hkj] at t0
        rw [if_f t0, ec, hkj]
        rfl
    exact ⟨_, asg_nm .., _, _, .inl (Eq.trans (seq_nx st1) st2), trivial, rfl, some (.int (j : Nat)), rfl⟩
  rw [iRow_len] at f2
  subst f2
  have hl : cs.length ≤ 16777216 := by omega
  show runB 6 (den__law_cut c) [.ref cl, .ref ql, Kd, Td] S = _
  refine run_rt ?_
  unfold den__law_cut
  show sSeq _ _ [some (.ref cl), some (.ref ql), some Kd, some Td, none, none] S = _
  rw [seq_set (d := .ref S.length) (S' := S ++ [.lst cs]) (by simp [eLN, lList, aC, aN, eV, gList, listD, hc])]
  have hw2 : (S ++ [O.lst cs])[ql]? = some (.lst (wD q)) := app_get hw
  have i1 : iR1 (eCall fLen (aC (eV 1) aN)) [some (.ref cl), some (.ref ql), some Kd, some Td, some (.ref S.length), none] (S ++ [.lst cs]) = .ok (iRow 0 q.length, fun _ => True) (S ++ [.lst cs]) := iR1_nat (by simp [eCall, aC, aN, eV, fLen, seqOf, hw2, wD_len]) (by omega)
  refine Eq.trans (seq_nx (a := sFor (.nm 5) _ (lb__law_cut_1 c)) (Eq.trans (for_nx i1) f1)) ?_
  simp [sRet, eV]
end
end Z.k64
namespace Z.k64
open PySem L2 Z
variable (c : Ad) (S : Sto)
/-! ### drawn lots -/
structure Lts (n : Nat) (kl tl : List Nat) : Prop where
  a1 : Asc kl
  a2 : Asc tl
  b1 : ∀ a ∈ kl, a < n
  b2 : ∀ a ∈ tl, a < n
  no : anyB kl tl = false
theorem asc_app {l : List Nat} {n : Nat} (h : Asc l) (hl : ∀ a ∈ l, a < n) (hn : l.length < 1000) : Asc (l ++ [n]) := by
  refine ⟨?_, by simp; omega⟩
  rw [List.pairwise_append]
  exact ⟨h.1, by simp, fun a ha b hb => by
    simp at hb
    subst hb
    exact hl a ha⟩
theorem lt_app {l : List Nat} {n : Nat} (hl : ∀ a ∈ l, a < n) : ∀ a ∈ l ++ [n], a < n + 1 := fun a ha => by
  rcases List.mem_append.mp ha with h | h
  · have := hl a h
    omega
  · simp at h
    omega
theorem anyB_no {kl tl : List Nat} : anyB kl tl = false ↔ ∀ p ∈ tl, p ∉ kl := by
  unfold anyB
  rw [List.any_eq_false]
  simp
theorem natD_app (xs ys : List Nat) : natD xs ++ natD ys = natD (xs ++ ys) := by simp [natD]
theorem cat_n {xs ys : List Nat} (h1 : xs.length ≤ 1000) (h2 : ys.length ≤ 1000) : gCat S (.lst (natD xs)) (.lst (natD ys)) = .ok (natD (xs ++ ys)) S := by
  have g : (natD xs).length + (natD ys).length ≤ 16777216 := by rw [natD_len, natD_len]; omega
  simp only [gCat, lstH, if_pos g, natD_app]
theorem lots_1 {b : Nat} {z st ct : Int} (hb : S[b]? = some (boxO z st ct)) (n j : Nat) (hj : j < 1000) {kl tl : List Nat} (h : Lts j kl tl) (hl : kl.length ≤ j ∧ tl.length ≤ j) (a5 : Option D) :
    ∃ (kl' tl' : List Nat) (z' st' ct' : Int) (b5 : Option D), Lts (j + 1) kl' tl' ∧ (kl'.length ≤ j + 1 ∧ tl'.length ≤ j + 1) ∧ lb__law_lots_1 c [some (.ref b), some (.int (n : Nat)), some (.lst (natD kl)), some (.lst (natD tl)), some (.int (j : Nat)), a5] S = .nx [some (.ref b), some (.int (n : Nat)), some (.lst (natD kl')), some (.lst (natD tl')), some (.int (j : Nat)), b5] (S.set b (boxO z' st' ct')) := by
  obtain ⟨r, z', st', ct', hr, e⟩ := take_i c S hb 3 (by omega) (by omega)
  have e' : F__law_take c [.ref b, .int 3] S = .ok (.int (r : Nat)) (S.set b (boxO z' st' ct')) := e
  have k1 := h.a1.2
  have k2 := h.a2.2
  have no := anyB_no.mp h.no
  have s1 : natD [j] = [.int (j : Nat)] := rfl
  have s0 : natD [] = [] := rfl
  have c1 := fun (S : Sto) => cat_n S (xs := kl) (ys := [j]) k1 (by simp)
  have c2 := fun (S : Sto) => cat_n S (xs := kl) (ys := []) k1 (by simp)
  have c3 := fun (S : Sto) => cat_n S (xs := tl) (ys := [j]) k2 (by simp)
  have c4 := fun (S : Sto) => cat_n S (xs := tl) (ys := []) k2 (by simp)
  rw [s1] at c1 c3
  rw [s0] at c2 c4
  simp only [List.append_nil] at c2 c4
  have w1 : ∀ a ∈ kl, a < j + 1 := fun a ha => by have := h.b1 a ha; omega
  have w2 : ∀ a ∈ tl, a < j + 1 := fun a ha => by have := h.b2 a ha; omega
  match r, hr with
  | 0, _ =>
    refine ⟨kl ++ [j], tl, z', st', ct', some (.int ((0 : Nat) : Int)), ⟨asc_app h.a1 h.b1 (by omega), h.a2, lt_app h.b1, w2, anyB_no.mpr fun p hp hk => ?_⟩, by simp; omega, ?_⟩
    · rcases List.mem_append.mp hk with q | q
      · exact no p hp q
      · simp at q
        have := h.b2 p hp
        omega
    · simp [lb__law_lots_1, dl__law_take, e', lCat, c1, c4, runB, env0, sSeq, sRet, sRetN, sIf, sSet, sDrop, sNx, sPar, sAsg, sAttr, sPut, sRaise, Tg.asg, Tg.asgs, eAnd, eOr, eNot, eIf, tAnd, tOr, tNot, tV, tVB, tYes, eCall, eFn, eMk, eMt, eFld, eBM, aC, aN, eV, eC, Z.e1, Z.e2, eTup, eLV, eLN, eChain, eSl, fIsi, tyD, isK, anyK, tNames, rB, tru, fLen, fTuple, fAbs, fInt, fAll, fAny, fIsN, fNotN, fIsB, fNotB, fNeg, seqOf, lstOf, isL, fLt_ii, fLe_ii, fGt_ii, fGe_ii, fSub_ii, fPlus, fMod_ii, fMul_ii, fDiv_ii, fEq, fNe, eqD_int, fIx, atI_0, atI_1, atI_2, lLc, lLc2, iSeq, iCall, fEnum, fZip, wipeD, putD, lSl, lRev, R.to_ok, R.bind_ok]
  | 1, _ =>
    refine ⟨kl, tl ++ [j], z', st', ct', some (.int ((1 : Nat) : Int)), ⟨h.a1, asc_app h.a2 h.b2 (by omega), w1, lt_app h.b2, anyB_no.mpr fun p hp hk => ?_⟩, by simp; omega, ?_⟩
    · rcases List.mem_append.mp hp with q | q
      · exact no p q hk
      · simp at q
        have := h.b1 p hk
        omega
    · simp [lb__law_lots_1, dl__law_take, e', lCat, c2, c3, runB, env0, sSeq, sRet, sRetN, sIf, sSet, sDrop, sNx, sPar, sAsg, sAttr, sPut, sRaise, Tg.asg, Tg.asgs, eAnd, eOr, eNot, eIf, tAnd, tOr, tNot, tV, tVB, tYes, eCall, eFn, eMk, eMt, eFld, eBM, aC, aN, eV, eC, Z.e1, Z.e2, eTup, eLV, eLN, eChain, eSl, fIsi, tyD, isK, anyK, tNames, rB, tru, fLen, fTuple, fAbs, fInt, fAll, fAny, fIsN, fNotN, fIsB, fNotB, fNeg, seqOf, lstOf, isL, fLt_ii, fLe_ii, fGt_ii, fGe_ii, fSub_ii, fPlus, fMod_ii, fMul_ii, fDiv_ii, fEq, fNe, eqD_int, fIx, atI_0, atI_1, atI_2, lLc, lLc2, iSeq, iCall, fEnum, fZip, wipeD, putD, lSl, lRev, R.to_ok, R.bind_ok]
  | 2, _ =>
    refine ⟨kl, tl, z', st', ct', some (.int ((2 : Nat) : Int)), ⟨h.a1, h.a2, w1, w2, h.no⟩, by omega, ?_⟩
    simp [lb__law_lots_1, dl__law_take, e', lCat, c2, c4, runB, env0, sSeq, sRet, sRetN, sIf, sSet, sDrop, sNx, sPar, sAsg, sAttr, sPut, sRaise, Tg.asg, Tg.asgs, eAnd, eOr, eNot, eIf, tAnd, tOr, tNot, tV, tVB, tYes, eCall, eFn, eMk, eMt, eFld, eBM, aC, aN, eV, eC, Z.e1, Z.e2, eTup, eLV, eLN, eChain, eSl, fIsi, tyD, isK, anyK, tNames, rB, tru, fLen, fTuple, fAbs, fInt, fAll, fAny, fIsN, fNotN, fIsB, fNotB, fNeg, seqOf, lstOf, isL, fLt_ii, fLe_ii, fGt_ii, fGe_ii, fSub_ii, fPlus, fMod_ii, fMul_ii, fDiv_ii, fEq, fNe, eqD_int, fIx, atI_0, atI_1, atI_2, lLc, lLc2, iSeq, iCall, fEnum, fZip, wipeD, putD, lSl, lRev, R.to_ok, R.bind_ok]
  | r + 3, hr => omega
theorem lots_i {b : Nat} {z st ct : Int} (hb : S[b]? = some (boxO z st ct)) (n : Nat) (hn : n ≤ 1000) : ∃ (kl tl : List Nat) (z' st' ct' : Int), Lts n kl tl ∧ kl.length ≤ n ∧ F__law_lots c [.ref b, .int n] S = .ok (.tup [.tup (natD kl), .tup (natD tl)]) (S.set b (boxO z' st' ct')) := by
  obtain ⟨ρ', S', f1, kl, tl, z', st', ct', h1, h2, f2, b4, b5, rfl⟩ := forI_idx (tg := .nm 4) (chk := fun _ => True) (b := lb__law_lots_1 c) (fun j ρ S' => ∃ kl tl z' st' ct', Lts j kl tl ∧ (kl.length ≤ j ∧ tl.length ≤ j) ∧ S' = S.set b (boxO z' st' ct') ∧ ∃ b4 b5, ρ = [some (.ref b), some (.int (n : Nat)), some (.lst (natD kl)), some (.lst (natD tl)), b4, b5]) (iRow 0 n) [some (.ref b), some (.int (n : Nat)), some (.lst (natD [])), some (.lst (natD [])), none, none] S ⟨[], [], z, st, ct, ⟨⟨by simp, by simp⟩, ⟨by simp, by simp⟩, by simp, by simp, rfl⟩, by simp, (set_same hb).symm, none, none, rfl⟩ fun j x hx ρ S1 hP => by
    obtain ⟨kl, tl, z', st', ct', h1, h2, rfl, b4, b5, rfl⟩ := hP
    have hj := get_lt hx
    rw [iRow_len] at hj
    rw [iRow_get 0 n j hj] at hx
    cases hx
    have e0 : (0 : Int) + (j : Nat) = (j : Nat) := by omega
    rw [e0]
    obtain ⟨kl', tl', z2, st2, ct2, c5, q1, q2, q3⟩ := lots_1 c (S.set b (boxO z' st' ct')) (set_get hb) n j (by omega) h1 h2 b5
    rw [List.set_set] at q3
    exact ⟨_, asg_nm .., _, _, .inl (by simpa using q3), trivial, kl', tl', z2, st2, ct2, q1, q2, rfl, some (.int (j : Nat)), c5, rfl⟩
  rw [iRow_len] at h1 h2
  subst f2
  refine ⟨kl, tl, z', st', ct', h1, h2.1, ?_⟩
  show runB 6 (den__law_lots c) [.ref b, .int n] S = _
  refine run_rt ?_
  unfold den__law_lots
  show sSeq _ _ [some (.ref b), some (.int (n : Nat)), none, none, none, none] S = _
  rw [seq_par (d := .lst (natD [])) (e := .lst (natD [])) (S1 := S) (S' := S) (by simp [eLV, aN, natD]) (by simp [eLV, aN, natD])]
  have i1 : iR1 (eV 1) [some (.ref b), some (.int (n : Nat)), some (.lst (natD [])), some (.lst (natD [])), none, none] S = .ok (iRow 0 n, fun _ => True) S := iR1_nat (by simp [eV]) (by omega)
  refine Eq.trans (seq_nx (a := sFor (.nm 4) _ (lb__law_lots_1 c)) (Eq.trans (for_nx i1) f1)) ?_
  simp [sRet, eTup, aC, aN, eCall, eV, fTuple, seqOf]
/-! ### is it a lot, by the law -/
theorem li_non (n : D) : F__law_is_lot c [.non, n] S = .ok (.bl false) S := by simp [F__law_is_lot, den__law_is_lot, runB, env0, sSeq, sRet, sRetN, sIf, sSet, sDrop, sNx, sPar, sAsg, sAttr, sPut, sRaise, Tg.asg, Tg.asgs, eAnd, eOr, eNot, eIf, tAnd, tOr, tNot, tV, tVB, tYes, eCall, eFn, eMk, eMt, eFld, eBM, aC, aN, eV, eC, Z.e1, Z.e2, eTup, eLV, eLN, eChain, eSl, fIsi, tyD, isK, anyK, tNames, rB, tru, fLen, fTuple, fAbs, fInt, fAll, fAny, fIsN, fNotN, fIsB, fNotB, fNeg, seqOf, lstOf, isL, fLt_ii, fLe_ii, fGt_ii, fGe_ii, fSub_ii, fPlus, fMod_ii, fMul_ii, fDiv_ii, fEq, fNe, eqD_int, fIx, atI_0, atI_1, atI_2, lLc, lLc2, iSeq, iCall, fEnum, fZip, wipeD, putD, lSl, lRev, R.to_ok, R.bind_ok]
theorem li_lst (ds : List D) (n : D) : F__law_is_lot c [.lst ds, n] S = .ok (.bl false) S := by simp [F__law_is_lot, den__law_is_lot, runB, env0, sSeq, sRet, sRetN, sIf, sSet, sDrop, sNx, sPar, sAsg, sAttr, sPut, sRaise, Tg.asg, Tg.asgs, eAnd, eOr, eNot, eIf, tAnd, tOr, tNot, tV, tVB, tYes, eCall, eFn, eMk, eMt, eFld, eBM, aC, aN, eV, eC, Z.e1, Z.e2, eTup, eLV, eLN, eChain, eSl, fIsi, tyD, isK, anyK, tNames, rB, tru, fLen, fTuple, fAbs, fInt, fAll, fAny, fIsN, fNotN, fIsB, fNotB, fNeg, seqOf, lstOf, isL, fLt_ii, fLe_ii, fGt_ii, fGe_ii, fSub_ii, fPlus, fMod_ii, fMul_ii, fDiv_ii, fEq, fNe, eqD_int, fIx, atI_0, atI_1, atI_2, lLc, lLc2, iSeq, iCall, fEnum, fZip, wipeD, putD, lSl, lRev, R.to_ok, R.bind_ok]
theorem li_tr (n : Nat) : F__law_is_lot c [.tup [.bl true], .int n] S = .ok (.bl false) S := by simp [F__law_is_lot, den__law_is_lot, lcI, bools, runB, env0, sSeq, sRet, sRetN, sIf, sSet, sDrop, sNx, sPar, sAsg, sAttr, sPut, sRaise, Tg.asg, Tg.asgs, eAnd, eOr, eNot, eIf, tAnd, tOr, tNot, tV, tVB, tYes, eCall, eFn, eMk, eMt, eFld, eBM, aC, aN, eV, eC, Z.e1, Z.e2, eTup, eLV, eLN, eChain, eSl, fIsi, tyD, isK, anyK, tNames, rB, tru, fLen, fTuple, fAbs, fInt, fAll, fAny, fIsN, fNotN, fIsB, fNotB, fNeg, seqOf, lstOf, isL, fLt_ii, fLe_ii, fGt_ii, fGe_ii, fSub_ii, fPlus, fMod_ii, fMul_ii, fDiv_ii, fEq, fNe, eqD_int, fIx, atI_0, atI_1, atI_2, lLc, lLc2, iSeq, iCall, fEnum, fZip, wipeD, putD, lSl, lRev, R.to_ok, R.bind_ok]
theorem li_m1 (n : Nat) : F__law_is_lot c [.tup [.int (-1)], .int n] S = .ok (.bl false) S := by simp [F__law_is_lot, den__law_is_lot, lcI, bools, runB, env0, sSeq, sRet, sRetN, sIf, sSet, sDrop, sNx, sPar, sAsg, sAttr, sPut, sRaise, Tg.asg, Tg.asgs, eAnd, eOr, eNot, eIf, tAnd, tOr, tNot, tV, tVB, tYes, eCall, eFn, eMk, eMt, eFld, eBM, aC, aN, eV, eC, Z.e1, Z.e2, eTup, eLV, eLN, eChain, eSl, fIsi, tyD, isK, anyK, tNames, rB, tru, fLen, fTuple, fAbs, fInt, fAll, fAny, fIsN, fNotN, fIsB, fNotB, fNeg, seqOf, lstOf, isL, fLt_ii, fLe_ii, fGt_ii, fGe_ii, fSub_ii, fPlus, fMod_ii, fMul_ii, fDiv_ii, fEq, fNe, eqD_int, fIx, atI_0, atI_1, atI_2, lLc, lLc2, iSeq, iCall, fEnum, fZip, wipeD, putD, lSl, lRev, R.to_ok, R.bind_ok]
theorem li_big (n : Nat) : F__law_is_lot c [.tup [.int n], .int n] S = .ok (.bl false) S := by
  have h0 : (0 : Int) ≤ (n : Int) := by omega
  simp [F__law_is_lot, den__law_is_lot, lcI, bools, h0, runB, env0, sSeq, sRet, sRetN, sIf, sSet, sDrop, sNx, sPar, sAsg, sAttr, sPut, sRaise, Tg.asg, Tg.asgs, eAnd, eOr, eNot, eIf, tAnd, tOr, tNot, tV, tVB, tYes, eCall, eFn, eMk, eMt, eFld, eBM, aC, aN, eV, eC, Z.e1, Z.e2, eTup, eLV, eLN, eChain, eSl, fIsi, tyD, isK, anyK, tNames, rB, tru, fLen, fTuple, fAbs, fInt, fAll, fAny, fIsN, fNotN, fIsB, fNotB, fNeg, seqOf, lstOf, isL, fLt_ii, fLe_ii, fGt_ii, fGe_ii, fSub_ii, fPlus, fMod_ii, fMul_ii, fDiv_ii, fEq, fNe, eqD_int, fIx, atI_0, atI_1, atI_2, lLc, lLc2, iSeq, iCall, fEnum, fZip, wipeD, putD, lSl, lRev, R.to_ok, R.bind_ok]
theorem toPs_nat (S : Sto) : ∀ xs : List Nat, toPs S (natD xs) = some (xs.map fun a : Nat => PyData.int (a : Nat))
  | [] => rfl
  | x :: xs => by
    have ih := toPs_nat S xs
    unfold natD at ih ⊢
    simp [toPs, toP, ih]
theorem lay_nat : ∀ xs : List Nat, PyData.canLayAll0 (xs.map fun a : Nat => PyData.int (a : Nat)) = true
  | [] => rfl
  | x :: xs => by simp [PyData.canLayAll0, PyData.canLay0, lay_nat xs]
theorem shaped_nat (xs : List Nat) : SeqAt.shaped (.list (xs.map fun a : Nat => PyData.int (a : Nat))) = true := by
  have : ∀ ys : List Nat, PyData.depthAll (ys.map fun a : Nat => PyData.int (a : Nat)) ≤ 1 := by
    intro ys
    induction ys with
    | nil => simp [PyData.depthAll]
    | cons y ys ih => simp [PyData.depthAll, PyData.depth]; omega
  have h := this xs
  unfold SeqAt.shaped
  rw [Bool.and_eq_true_iff]
  exact ⟨by simp only [PyData.canLay0]; exact lay_nat xs, decide_eq_true (by simp only [PyData.depth]; omega)⟩
theorem eqv_nat : ∀ xs ys : List Nat, PyData.eqvAll (xs.map fun a : Nat => PyData.int (a : Nat)) (ys.map fun a : Nat => PyData.int (a : Nat)) = decide (xs = ys)
  | [], [] => rfl
  | [], y :: ys => rfl
  | x :: xs, [] => rfl
  | x :: xs, y :: ys => by
    have ih := eqv_nat xs ys
    have e : PyData.eqv (.int (x : Nat)) (.int (y : Nat)) = decide (x = y) := by
      simp only [PyData.eqv]
      exact decide_eq_decide.mpr (by omega)
    simp only [List.map_cons, PyData.eqvAll, ih, e]
    rw [Bool.eq_iff_iff]
    simp
theorem eq_nat (xs ys : List Nat) : eqD S (.lst (natD xs)) (.lst (natD ys)) = some (decide (xs = ys)) := by
  unfold eqD
  have e1 : toP S (.lst (natD xs)) = some (.list (xs.map fun a : Nat => PyData.int (a : Nat))) := by simp only [toP, toPs_nat S, Option.map_some]
  have e2 : toP S (.lst (natD ys)) = some (.list (ys.map fun a : Nat => PyData.int (a : Nat))) := by simp only [toP, toPs_nat S, Option.map_some]
  rw [e1, e2]
  simp only [shaped_nat, and_self, if_true, PyData.eqv, eqv_nat]
theorem sort_asc {l : List Nat} (h : Asc l) : usortK keyT (natD l) = natD l := by
  refine (usortK_uniq (fun z => Iff.rfl) (List.pairwise_map.mpr (h.1.imp fun {a b} hab => ?_)) fun x hx y hy e => ?_).symm
  · show (a : Int) < (b : Int)
    omega
  · obtain ⟨a, _, rfl⟩ := List.mem_map.mp hx
    obtain ⟨b, _, rfl⟩ := List.mem_map.mp hy
    have e : (a : Int) = (b : Int) := e
    rw [e]
theorem li_parts {l : List Nat} {n : Nat} (hl : l.length < 64) (hlt : ∀ a ∈ l, a < n) {r : List Nat} (hr : usortK keyT (natD l) = natD r) : F__law_is_lot c [.tup (natD l), .int n] S = .ok (.bl (decide (l = r))) S := by
  have g1 : ∀ a, lcI (.nm 2) (fun _ => True) tYes (eAnd (eCall (fIsi c.cs) (aC (eV 2) (aC (eC (.ty "int")) aN))) (eNot (eCall (fIsi c.cs) (aC (eV 2) (aC (eC (.ty "bool")) aN))))) [some (.tup (natD l)), a, none] (natD l) S = .ok ((natD l).map fun _ => .bl true) S := fun a => lcI_map (fun _ => .bl true) trivial _ fun x hx => by
    obtain ⟨a, ha, rfl⟩ := List.mem_map.mp hx
    exact ⟨_, asg_nm .., by simp [runB, env0, sSeq, sRet, sRetN, sIf, sSet, sDrop, sNx, sPar, sAsg, sAttr, sPut, sRaise, Tg.asg, Tg.asgs, eAnd, eOr, eNot, eIf, tAnd, tOr, tNot, tV, tVB, tYes, eCall, eFn, eMk, eMt, eFld, eBM, aC, aN, eV, eC, Z.e1, Z.e2, eTup, eLV, eLN, eChain, eSl, fIsi, tyD, isK, anyK, tNames, rB, tru, fLen, fTuple, fAbs, fInt, fAll, fAny, fIsN, fNotN, fIsB, fNotB, fNeg, seqOf, lstOf, isL, fLt_ii, fLe_ii, fGt_ii, fGe_ii, fSub_ii, fPlus, fMod_ii, fMul_ii, fDiv_ii, fEq, fNe, eqD_int, fIx, atI_0, atI_1, atI_2, lLc, lLc2, iSeq, iCall, fEnum, fZip, wipeD, putD, lSl, lRev, R.to_ok, R.bind_ok]⟩
  have g2 : lcI (.nm 2) (fun _ => True) tYes (eChain fLe fLt (eC (.int 0)) (eV 2) (eV 1)) [some (.tup (natD l)), some (.int (n : Nat)), none] (natD l) S = .ok ((natD l).map fun _ => .bl true) S := lcI_map (fun _ => .bl true) trivial _ fun x hx => by
    obtain ⟨a, ha, rfl⟩ := List.mem_map.mp hx
    have lt := hlt a ha
    refine ⟨_, asg_nm .., ?_⟩
    simp [lt, runB, env0, sSeq, sRet, sRetN, sIf, sSet, sDrop, sNx, sPar, sAsg, sAttr, sPut, sRaise, Tg.asg, Tg.asgs, eAnd, eOr, eNot, eIf, tAnd, tOr, tNot, tV, tVB, tYes, eCall, eFn, eMk, eMt, eFld, eBM, aC, aN, eV, eC, Z.e1, Z.e2, eTup, eLV, eLN, eChain, eSl, fIsi, tyD, isK, anyK, tNames, rB, tru, fLen, fTuple, fAbs, fInt, fAll, fAny, fIsN, fNotN, fIsB, fNotB, fNeg, seqOf, lstOf, isL, fLt_ii, fLe_ii, fGt_ii, fGe_ii, fSub_ii, fPlus, fMod_ii, fMul_ii, fDiv_ii, fEq, fNe, eqD_int, fIx, atI_0, atI_1, atI_2, lLc, lLc2, iSeq, iCall, fEnum, fZip, wipeD, putD, lSl, lRev, R.to_ok, R.bind_ok]
  have g3 : bools ((natD l).map fun _ => D.bl true) = some ((natD l).map fun _ => true) := bools_true _
  have g4 : (natD l).length ≤ 16777216 := by rw [natD_len]; omega
  have g5 : (natD l).length < 64 := by rw [natD_len]; omega
  have g6 : gSortSetT S [.tup (natD l)] = .ok (natD r) S := by
    simp only [gSortSetT]
    rw [if_pos ⟨g5, by rw [ints_natD]; rfl⟩, hr]
  have g7 := eq_nat S l r
  obtain ⟨Q, hQ⟩ : ∃ Q : List Bool, Q = (natD l).map fun _ => true := ⟨_, rfl⟩
  have hq : Q.all id = true := by rw [hQ]; simp
  obtain ⟨BL, hBL⟩ : ∃ BL : List D, BL = (natD l).map fun _ => .bl true := ⟨_, rfl⟩
  obtain ⟨N, hN⟩ : ∃ N, N = natD l := ⟨_, rfl⟩
  rw [← hQ, ← hBL] at g3
  rw [← hBL] at g1 g2
  rw [← hN] at g1 g2 g4 g5 g6 g7 ⊢
  simp [F__law_is_lot, den__law_is_lot, g1, g2, g3, g4, hq, lSortSetT, g6, g7, lList, gList, listD, runB, env0, sSeq, sRet, sRetN, sIf, sSet, sDrop, sNx, sPar, sAsg, sAttr, sPut, sRaise, Tg.asg, Tg.asgs, eAnd, eOr, eNot, eIf, tAnd, tOr, tNot, tV, tVB, tYes, eCall, eFn, eMk, eMt, eFld, eBM, aC, aN, eV, eC, Z.e1, Z.e2, eTup, eLV, eLN, eChain, eSl, fIsi, tyD, isK, anyK, tNames, rB, tru, fLen, fTuple, fAbs, fInt, fAll, fAny, fIsN, fNotN, fIsB, fNotB, fNeg, seqOf, lstOf, isL, fLt_ii, fLe_ii, fGt_ii, fGe_ii, fSub_ii, fPlus, fMod_ii, fMul_ii, fDiv_ii, fEq, fNe, eqD_int, fIx, atI_0, atI_1, atI_2, lLc, lLc2, iSeq, iCall, fEnum, fZip, wipeD, putD, lSl, lRev, R.to_ok, R.bind_ok]
theorem li_ok {l : List Nat} {n : Nat} (h : Asc l) (hl : l.length < 64) (hlt : ∀ a ∈ l, a < n) : F__law_is_lot c [.tup (natD l), .int n] S = .ok (.bl true) S := by
  have := li_parts c S hl hlt (sort_asc h)
  simpa using this
theorem li_00 (n : Nat) : F__law_is_lot c [.tup [.int 0, .int 0], .int n] S = .ok (.bl false) S := by
  by_cases h : 0 < n
  · have e : usortK keyT (natD [0, 0]) = natD [0] := by
      simp [usortK, insU, natD, keyT]
    have := li_parts c S (l := [0, 0]) (n := n) (by simp) (by simpa using h) e
    exact this
  · have h' : n = 0 := by omega
    subst h'
    simp [F__law_is_lot, den__law_is_lot, lcI, bools, runB, env0, sSeq, sRet, sRetN, sIf, sSet, sDrop, sNx, sPar, sAsg, sAttr, sPut, sRaise, Tg.asg, Tg.asgs, eAnd, eOr, eNot, eIf, tAnd, tOr, tNot, tV, tVB, tYes, eCall, eFn, eMk, eMt, eFld, eBM, aC, aN, eV, eC, Z.e1, Z.e2, eTup, eLV, eLN, eChain, eSl, fIsi, tyD, isK, anyK, tNames, rB, tru, fLen, fTuple, fAbs, fInt, fAll, fAny, fIsN, fNotN, fIsB, fNotB, fNeg, seqOf, lstOf, isL, fLt_ii, fLe_ii, fGt_ii, fGe_ii, fSub_ii, fPlus, fMod_ii, fMul_ii, fDiv_ii, fEq, fNe, eqD_int, fIx, atI_0, atI_1, atI_2, lLc, lLc2, iSeq, iCall, fEnum, fZip, wipeD, putD, lSl, lRev, R.to_ok, R.bind_ok]
theorem li_10 (n : Nat) : F__law_is_lot c [.tup [.int 1, .int 0], .int n] S = .ok (.bl false) S := by
  by_cases h : 1 < n
  · have e : usortK keyT (natD [1, 0]) = natD [0, 1] := by
      simp [usortK, insU, natD, keyT]
    have := li_parts c S (l := [1, 0]) (n := n) (by simp) (by simp; omega) e
    exact this
  · have h1 : ¬ (1 : Int) < (n : Int) := by omega
    by_cases h0 : 0 < n
    · have h2 : (0 : Int) < (n : Int) := by omega
      simp [F__law_is_lot, den__law_is_lot, lcI, bools, h1, h2, h0, h, runB, env0, sSeq, sRet, sRetN, sIf, sSet, sDrop, sNx, sPar, sAsg, sAttr, sPut, sRaise, Tg.asg, Tg.asgs, eAnd, eOr, eNot, eIf, tAnd, tOr, tNot, tV, tVB, tYes, eCall, eFn, eMk, eMt, eFld, eBM, aC, aN, eV, eC, Z.e1, Z.e2, eTup, eLV, eLN, eChain, eSl, fIsi, tyD, isK, anyK, tNames, rB, tru, fLen, fTuple, fAbs, fInt, fAll, fAny, fIsN, fNotN, fIsB, fNotB, fNeg, seqOf, lstOf, isL, fLt_ii, fLe_ii, fGt_ii, fGe_ii, fSub_ii, fPlus, fMod_ii, fMul_ii, fDiv_ii, fEq, fNe, eqD_int, fIx, atI_0, atI_1, atI_2, lLc, lLc2, iSeq, iCall, fEnum, fZip, wipeD, putD, lSl, lRev, R.to_ok, R.bind_ok]
    · have h2 : ¬ (0 : Int) < (n : Int) := by omega
      simp [F__law_is_lot, den__law_is_lot, lcI, bools, h1, h2, h0, h, runB, env0, sSeq, sRet, sRetN, sIf, sSet, sDrop, sNx, sPar, sAsg, sAttr, sPut, sRaise, Tg.asg, Tg.asgs, eAnd, eOr, eNot, eIf, tAnd, tOr, tNot, tV, tVB, tYes, eCall, eFn, eMk, eMt, eFld, eBM, aC, aN, eV, eC, Z.e1, Z.e2, eTup, eLV, eLN, eChain, eSl, fIsi, tyD, isK, anyK, tNames, rB, tru, fLen, fTuple, fAbs, fInt, fAll, fAny, fIsN, fNotN, fIsB, fNotB, fNeg, seqOf, lstOf, isL, fLt_ii, fLe_ii, fGt_ii, fGe_ii, fSub_ii, fPlus, fMod_ii, fMul_ii, fDiv_ii, fEq, fNe, eqD_int, fIx, atI_0, atI_1, atI_2, lLc, lLc2, iSeq, iCall, fEnum, fZip, wipeD, putD, lSl, lRev, R.to_ok, R.bind_ok]
end Z.k64
namespace Z.k64
open PySem L2 Z
variable (c : Ad) (S : Sto)
/-! ### methods called -/
theorem meth_i {mt : Str} (h1 : (mt == "cells") = false) (h2 : (mt == "waiting") = false) {d ce wa : Nat} (hd : S[d]? = some (dO c ce wa)) {a : DE} {ρ : Env} (ha : a ρ S = .ok (.ref d) S) (n : Nat) (F : List D → Sto → R D) (dd : List D) (r : DA) :
    eMt c.cs mt c.CutDisk n F dd a r ρ S = (r ρ S).bind fun ds S2 => if (D.ref d :: (ds ++ dd)).length = n then F (.ref d :: (ds ++ dd)) S2 else .bad := by
  have e : List.lookup mt [(("cells" : Str), D.ref ce), (("waiting" : Str), D.ref wa)] = none := by simp [List.lookup, h1, h2]
  simp [eMt, ha, hd, dO, e]
theorem ne1 : (("waits" : Str) == "cells") = false := by decide +kernel
theorem ne2 : (("waits" : Str) == "waiting") = false := by decide +kernel
theorem ne3 : (("size" : Str) == "cells") = false := by decide +kernel
theorem ne4 : (("size" : Str) == "waiting") = false := by decide +kernel
theorem ne5 : (("read" : Str) == "cells") = false := by decide +kernel
theorem ne6 : (("read" : Str) == "waiting") = false := by decide +kernel
theorem ne7 : (("put" : Str) == "cells") = false := by decide +kernel
theorem ne8 : (("put" : Str) == "waiting") = false := by decide +kernel
theorem ne9 : (("flush" : Str) == "cells") = false := by decide +kernel
theorem ne10 : (("flush" : Str) == "waiting") = false := by decide +kernel
theorem ne11 : (("fall" : Str) == "cells") = false := by decide +kernel
theorem ne12 : (("fall" : Str) == "waiting") = false := by decide +kernel
/-! ### rows -/
def rowD (j r : Nat) : D := .tup [.str "row", .int j, .tup [.int r, .int j]]
def IsR (x : D) : Prop := ∃ j r, x = rowD j r
theorem sm_row (j r q : Nat) : Sm (q + 3) (rowD j r) := by
  refine ⟨by simp, fun x hx => ?_⟩
  simp only [List.mem_cons, List.not_mem_nil, or_false] at hx
  rcases hx with rfl | rfl | rfl
  · show SeqAt.shaped (.str "row") = true
    decide +kernel
  · trivial
  · refine ⟨by simp, fun x hx => ?_⟩
    simp only [List.mem_cons, List.not_mem_nil, or_false] at hx
    rcases hx with rfl | rfl <;> trivial
theorem sm_torn (q : Nat) : Sm (q + 2) tornD := by
  refine ⟨by simp, fun x hx => ?_⟩
  simp only [List.mem_cons, List.not_mem_nil, or_false] at hx
  subst hx
  show SeqAt.shaped (.str "torn") = true
  decide +kernel
theorem sm_refused (q : Nat) (s : Str) (h : SeqAt.shaped (.str s) = true) : Sm (q + 2) (.tup [.str "refused", .str s]) := by
  refine ⟨by simp, fun x hx => ?_⟩
  simp only [List.mem_cons, List.not_mem_nil, or_false] at hx
  rcases hx with rfl | rfl
  · show SeqAt.shaped (.str "refused") = true
    decide +kernel
  · exact h
/-- what cells hold -/
def CsOk (cs : List D) : Prop := ∀ x ∈ cs, Sm 5 x
theorem mem_set {cs : List D} {i : Nat} {y x : D} (h : x ∈ cs.set i y) : x ∈ cs ∨ x = y := List.mem_or_eq_of_mem_set h
theorem cutS_ok {kp tn : Nat → Bool} {cs : List D} {i : Nat} {p : Nat × D} (h : CsOk cs) (hp : IsR p.2) : CsOk (cutS kp tn cs i p) := by
  obtain ⟨j, r, hp⟩ := hp
  have h1 : Sm 5 p.2 := by rw [hp]; exact sm_row j r 2
  have h2 : Sm 5 tornD := sm_torn 3
  unfold cutS
  intro x hx
  split at hx
  · split at hx
    · rcases mem_set hx with hx | rfl
      · rcases mem_set hx with hx | rfl
        · exact h x hx
        · exact h1
      · exact h2
    · rcases mem_set hx with hx | rfl
      · exact h x hx
      · exact h2
  · split at hx
    · rcases mem_set hx with hx | rfl
      · exact h x hx
      · exact h1
    · exact h x hx
theorem cutT_ok {kp tn : Nat → Bool} {cs : List D} {q : List (Nat × D)} (h : CsOk cs) (hq : ∀ p ∈ q, IsR p.2) : ∀ j, CsOk (cutT kp tn cs q j)
  | 0 => h
  | j + 1 => by
    unfold cutT
    cases hp : q[j]? with
    | none => exact cutT_ok h hq j
    | some p => exact cutS_ok (cutT_ok h hq j) (hq p (List.mem_of_getElem? hp))
/-! ### the disk and the law's own lists -/
structure Wd (c : Ad) (S : Sto) (b d ce wa cl ql : Nat) (cs : List D) (q : List (Nat × D)) (n : Nat) : Prop where
  tb : isTab S = some (c.tab, ("law.<locals>.<lambda>" : Str))
  hb : ∃ z st ct, S[b]? = some (boxO z st ct)
  hd : S[d]? = some (dO c ce wa)
  hce : S[ce]? = some (.lst cs)
  hwa : S[wa]? = some (.lst (wD q))
  hcl : S[cl]? = some (.lst cs)
  hql : S[ql]? = some (.lst (wD q))
  nd : [b, d, ce, wa, cl, ql].Nodup
  len : cs.length = n
  sl : SlOk n q
  sm : CsOk cs
  sq : ∀ p ∈ q, IsR p.2
  n3 : 3 ≤ n ∧ n ≤ 40
theorem isTab_set {S : Sto} {i : Nat} {o : O} {x : Addr × Str} (h : isTab S = some x) (hi : i ≠ 0) : isTab (S.set i o) = some x := by
  cases S with
  | nil => cases h
  | cons a S =>
    cases i with
    | zero => exact absurd rfl hi
    | succ i => cases a <;> simp [isTab] at h ⊢; exact h
theorem isTab_app {S G : Sto} {x : Addr × Str} (h : isTab S = some x) : isTab (S ++ G) = some x := by
  cases S with
  | nil => cases h
  | cons a S => cases a <;> simp [isTab] at h ⊢; exact h
theorem ne_zero {S : Sto} {P : Addr} {q : Str} {i : Nat} {o : O} (h : isTab S = some (P, q)) (hi : S[i]? = some o) (ho : ∀ P q, o ≠ .tab P q) : i ≠ 0 := fun e => by
  subst e
  rw [isTab_at h] at hi
  exact ho P q (Option.some.inj hi).symm
section
variable {b d ce wa cl ql n : Nat} {cs : List D} {q : List (Nat × D)}
theorem like_i (w : Wd c S b d ce wa cl ql cs q n) (hq : q.length ≤ 1000) : F__law_like c [.ref d, .ref cl, .ref ql] S = .ok (.bl true) S := by
  have n3 := w.n3
  have hl := w.len
  have e1 := waits_i c S w.hd w.hwa
  have e2 := size_i c S w.hd w.hce
  have s1 := same_i c S 6 (.int (q.length : Nat)) trivial
  have s2 := same_i c S 6 (.int (cs.length : Nat)) trivial
  have m1 := fun (ρ : Env) (a : DE) ha => meth_i c S ne1 ne2 w.hd (ρ := ρ) (a := a) ha 1 (F_CutDisk_waits c) [] aN
  have m2 := fun (ρ : Env) (a : DE) ha => meth_i c S ne3 ne4 w.hd (ρ := ρ) (a := a) ha 1 (F_CutDisk_size c) [] aN
  have g0 : ∀ a, iR1 (eCall fLen (aC (eV 1) aN)) [some (.ref d), some (.ref cl), some (.ref ql), a] S = .ok (iRow 0 cs.length, fun _ => True) S := fun a => iR1_nat (by simp [eCall, aC, aN, eV, fLen, seqOf, w.hcl]) (by omega)
  have g1 : ∀ a, lcI (.nm 3) (fun _ => True) tYes (eFn 2 (F__law_same c 6) dl__law_same (aC (eMt c.cs "read" c.CutDisk 2 (F_CutDisk_read c) dl_CutDisk_read (eV 0) (aC (eV 3) aN)) (aC (Z.e2 fIx (eV 1) (eV 3)) aN))) [some (.ref d), some (.ref cl), some (.ref ql), a] (iRow 0 cs.length) S = .ok ((List.range cs.length).map fun _ => .bl true) S := fun a => lcI_range (fun _ => .bl true) trivial fun i hi => by
    obtain ⟨x, hx⟩ := get_of hi
    have e := read_i c S w.hd w.hce hx
    have s := same_i c S 6 x (by
      have := w.sm x (List.mem_of_getElem? hx)
      have mono : ∀ (k : Nat) (y : D), Sm k y → Sm (k + 1) y := by
        intro k
        induction k with
        | zero => intro y h; cases y <;> exact h.elim
        | succ k ih =>
          intro y h
          cases y with
          | non => trivial
          | int i => trivial
          | str s => exact h
          | tup ds => exact ⟨h.1, fun z hz => ih z (h.2 z hz)⟩
          | _ => exact h.elim
      exact mono 5 x this)
    have m3 := meth_i c S ne5 ne6 w.hd (ρ := [some (.ref d), some (.ref cl), some (.ref ql), some (.int (i : Nat))]) (a := eV 0) (by simp [eV]) 2 (F_CutDisk_read c) [] (aC (eV 3) aN)
    have z0 : (0 : Int) + (i : Nat) = (i : Nat) := by omega
    rw [z0]
    simp only [eFn, aC, dl__law_same, dl_CutDisk_read, List.set_cons_succ, List.set_cons_zero]
    simp only [aC] at m3
    simp [m3, eV, aN, e, Z.e2, fIx, w.hcl, atI_nat, hx, s]
  have g2 : bools ((List.range cs.length).map fun _ => D.bl true) = some ((List.range cs.length).map fun _ => true) := bools_true _
  have g3 : (iRow 0 cs.length).length ≤ 16777216 := by rw [iRow_len]; omega
  obtain ⟨R1, hR⟩ : ∃ R1, R1 = iRow 0 cs.length := ⟨_, rfl⟩
  obtain ⟨BL, hBL⟩ : ∃ BL : List D, BL = (List.range cs.length).map fun _ => .bl true := ⟨_, rfl⟩
  obtain ⟨Q, hQ⟩ : ∃ Q : List Bool, Q = (List.range cs.length).map fun _ => true := ⟨_, rfl⟩
  have hq2 : Q.all id = true := by rw [hQ]; simp
  rw [← hR] at g0 g1 g3
  rw [← hBL] at g1 g2
  rw [← hQ] at g2
  have hA : eFn 2 (F__law_same c 6) (dl__law_same.drop 0) (aC (eMt c.cs "waits" c.CutDisk 1 (F_CutDisk_waits c) (dl_CutDisk_waits.drop 0) (eV 0) aN) (aC (eCall fLen (aC (eV 2) aN)) aN)) [some (.ref d), some (.ref cl), some (.ref ql), none] S = .ok (.bl true) S := by
    have m := m1 [some (.ref d), some (.ref cl), some (.ref ql), none] (eV 0) (by simp [eV])
    simp only [eFn, aC, dl__law_same, dl_CutDisk_waits, List.drop_nil]
    simp [m, aN, e1, eCall, aC, eV, fLen, seqOf, w.hql, wD_len, s1]
  have hB : eFn 2 (F__law_same c 6) (dl__law_same.drop 0) (aC (eMt c.cs "size" c.CutDisk 1 (F_CutDisk_size c) (dl_CutDisk_size.drop 0) (eV 0) aN) (aC (eCall fLen (aC (eV 1) aN)) aN)) [some (.ref d), some (.ref cl), some (.ref ql), none] S = .ok (.bl true) S := by
    have m := m2 [some (.ref d), some (.ref cl), some (.ref ql), none] (eV 0) (by simp [eV])
    simp only [eFn, aC, dl__law_same, dl_CutDisk_size, List.drop_nil]
    simp [m, aN, e2, eCall, aC, eV, fLen, seqOf, w.hcl, s2]
  show runB 4 (den__law_like c) [.ref d, .ref cl, .ref ql] S = _
  refine run_rt ?_
  unfold den__law_like
  show sSeq _ _ [some (.ref d), some (.ref cl), some (.ref ql), none] S = _
  rw [seq_skip (S' := S) (by
    simp only [tOr, tNot, tV, hA, hB, R.bind_ok, tru]
    rfl)]
  simp [sRet, eCall, aC, aN, eLV, lLc, g0, g3, wipeD, g1, fAll, lstOf, g2, hq2]
end
end Z.k64
namespace Z.k64
open PySem L2 Z
variable (c : Ad) (S : Sto)
theorem ref_exc {S S' : Sto} {de : DE} {ρ : Env} {s : Str} (tb : isTab S = some (c.tab, ("law.<locals>.<lambda>" : Str))) (h : de ρ S = .exc c.Refused (.str s) S') : eRef c.tab "law.<locals>.<lambda>" c.mt_Refused c.es "refused" de ρ S = .ok (.tup [.str "refused", .str s]) S' := by
  simp [eRef, tb, h, Ad.mt_Refused]
structure PairOk (c : Ad) (S : Sto) (d n : Nat) (x y : D) : Prop where
  no : F_CutDisk_fall c [.ref d, x, y] S = .exc c.Refused (.str "fall") S
  li : F__law_is_lot c [x, .int n] S = .ok (.bl false) S ∨ (F__law_is_lot c [x, .int n] S = .ok (.bl true) S ∧ F__law_is_lot c [y, .int n] S = .ok (.bl false) S) ∨ (x = .tup [.int 0] ∧ y = .tup [.int 0] ∧ F__law_is_lot c [x, .int n] S = .ok (.bl true) S)
theorem lw_2 {d ce wa ql : Nat} {q : List (Nat × D)} (tb : isTab S = some (c.tab, ("law.<locals>.<lambda>" : Str))) (hd : S[d]? = some (dO c ce wa)) (hq : S[ql]? = some (.lst (wD q))) {x y : D} (h : PairOk c S d q.length x y) (a0 a1 a2 a3 a4 a6 a8 a9 a10 a11 a12 a13 a14 a17 a18 a19 : Option D) :
    ∃ b18, lb_law_2 c [a0, a1, a2, a3, a4, some (.ref d), a6, some (.ref ql), a8, a9, a10, a11, a12, a13, a14, some x, some y, a17, a18, a19] S = .nx [a0, a1, a2, a3, a4, some (.ref d), a6, some (.ref ql), a8, a9, a10, a11, a12, a13, a14, some x, some y, a17, b18, a19] S := by
  have ff := h.no
  have m := meth_i c S ne11 ne12 hd (ρ := [a0, a1, a2, a3, a4, some (.ref d), a6, some (.ref ql), a8, a9, a10, a11, a12, a13, a14, some x, some y, a17, none, a19]) (a := eV 5) (by simp [eV]) 3 (F_CutDisk_fall c) [] (aC (eV 15) (aC (eV 16) aN))
  have gd : ∀ g : Bool, (eMt c.cs "fall" c.CutDisk 3 (F_CutDisk_fall c) (dl_CutDisk_fall.drop 0) (eV 5) (aC (eV 15) (aC (eV 16) aN))) [a0, a1, a2, a3, a4, some (.ref d), a6, some (.ref ql), a8, a9, a10, a11, a12, a13, a14, some x, some y, a17, some (.bl g), a19] S = .exc c.Refused (.str "fall") S := fun g => by
    have m := meth_i c S ne11 ne12 hd (ρ := [a0, a1, a2, a3, a4, some (.ref d), a6, some (.ref ql), a8, a9, a10, a11, a12, a13, a14, some x, some y, a17, some (.bl g), a19]) (a := eV 5) (by simp [eV]) 3 (F_CutDisk_fall c) [] (aC (eV 15) (aC (eV 16) aN))
    simp only [dl_CutDisk_fall, List.drop_nil]
    rw [m]
    simp [aC, aN, eV, ff]
  have rf := fun g => ref_exc c tb (gd g)
  have sm := same_i c S 6 (.tup [.str "refused", .str "fall"]) (sm_refused 4 "fall" (by decide +kernel))
  have fin : ∀ g : Bool, sIf (tNot (tV (eFn 2 (F__law_same c 6) (dl__law_same.drop 0) (aC (eRef c.tab "law.<locals>.<lambda>" c.mt_Refused c.es "refused" (eMt c.cs "fall" c.CutDisk 3 (F_CutDisk_fall c) (dl_CutDisk_fall.drop 0) (eV 5) (aC (eV 15) (aC (eV 16) aN)))) (aC (eTup (aC (eC (.str "refused")) (aC (eC (.str "fall")) aN))) aN))))) (sRet (eC (.bl false))) sNx [a0, a1, a2, a3, a4, some (.ref d), a6, some (.ref ql), a8, a9, a10, a11, a12, a13, a14, some x, some y, a17, some (.bl g), a19] S = .nx [a0, a1, a2, a3, a4, some (.ref d), a6, some (.ref ql), a8, a9, a10, a11, a12, a13, a14, some x, some y, a17, some (.bl g), a19] S := fun g => by
    have r := rf g
    obtain ⟨RE, hRE⟩ : ∃ RE : DE, RE = eRef c.tab "law.<locals>.<lambda>" c.mt_Refused c.es "refused" (eMt c.cs "fall" c.CutDisk 3 (F_CutDisk_fall c) (dl_CutDisk_fall.drop 0) (eV 5) (aC (eV 15) (aC (eV 16) aN))) := ⟨_, rfl⟩
    rw [← hRE] at r ⊢
    refine Eq.trans (if_f (S' := S) ?_) rfl
    simp [tNot, tV, eFn, aC, aN, r, eTup, eC, dl__law_same, sm, tru]
  have ln : (wD q).length = q.length := wD_len q
  have step : ∀ g : Bool, (eAnd (eFn 2 (F__law_is_lot c) (dl__law_is_lot.drop 0) (aC (eV 15) (aC (eCall fLen (aC (eV 7) aN)) aN))) (eFn 2 (F__law_is_lot c) (dl__law_is_lot.drop 0) (aC (eV 16) (aC (eCall fLen (aC (eV 7) aN)) aN)))) [a0, a1, a2, a3, a4, some (.ref d), a6, some (.ref ql), a8, a9, a10, a11, a12, a13, a14, some x, some y, a17, a18, a19] S = .ok (.bl g) S →
      (tAnd (tV (eV 18)) (tNot (tV (eCall fAny (aC (eLV (lLc (.nm 19) (iSeq (eV 16)) tYes (Z.e2 (fInA false) (eV 19) (eV 15)) [19])) aN))))) [a0, a1, a2, a3, a4, some (.ref d), a6, some (.ref ql), a8, a9, a10, a11, a12, a13, a14, some x, some y, a17, some (.bl g), a19] S = .ok false S →
      lb_law_2 c [a0, a1, a2, a3, a4, some (.ref d), a6, some (.ref ql), a8, a9, a10, a11, a12, a13, a14, some x, some y, a17, a18, a19] S = .nx [a0, a1, a2, a3, a4, some (.ref d), a6, some (.ref ql), a8, a9, a10, a11, a12, a13, a14, some x, some y, a17, some (.bl g), a19] S := fun g h1 h2 => by
    unfold lb_law_2
    rw [seq_set h1]
    show sSeq _ _ [a0, a1, a2, a3, a4, some (.ref d), a6, some (.ref ql), a8, a9, a10, a11, a12, a13, a14, some x, some y, a17, some (.bl g), a19] S = _
    rw [seq_skip h2]
    exact fin g
  rcases h.li with h1 | ⟨h1, h2⟩ | ⟨rfl, rfl, h1⟩
  · exact ⟨_, step false (by simp [eAnd, eFn, aC, aN, eV, eCall, fLen, seqOf, hq, ln, dl__law_is_lot, h1, tru]) (by simp [tAnd, tV, eV, tru])⟩
  · exact ⟨_, step false (by simp [eAnd, eFn, aC, aN, eV, eCall, fLen, seqOf, hq, ln, dl__law_is_lot, h1, h2, tru]) (by simp [tAnd, tV, eV, tru])⟩
  · exact ⟨_, step true (by simp [eAnd, eFn, aC, aN, eV, eCall, fLen, seqOf, hq, ln, dl__law_is_lot, h1, tru]) (by simp [tAnd, tNot, tV, eV, tru, eCall, aC, aN, eLV, lLc, iSeq, wipeD, lcI, Tg.asg, tYes, Z.e2, fInA, intsD, fAny, lstOf, bools, R.safe])⟩
def odsA (n : Nat) (kl tl : List Nat) : List D := [.tup [.tup (natD kl), .non], .tup [.non, .tup (natD tl)], .tup [.tup (natD kl), .tup [.int n]], .tup [.lst (natD kl), .tup (natD tl)], .tup [.tup [.bl true], .tup []], .tup [.tup [.int 0, .int 0], .tup []], .tup [.tup [.int (-1)], .tup []]]
def odsB : List D := [.tup [.tup [.int 0], .tup [.int 0]], .tup [.tup [.int 1, .int 0], .tup []]]
theorem pairs_ok {d ce wa : Nat} {q : List (Nat × D)} (hd : S[d]? = some (dO c ce wa)) (hw : S[wa]? = some (.lst (wD q))) (hq : q.length < 60) {kl tl : List Nat} (h : Lts q.length kl tl) (hl : kl.length ≤ q.length) : ∀ p ∈ odsA q.length kl tl, ∃ x y, p = .tup [x, y] ∧ PairOk c S d q.length x y := by
  intro p hp
  have hk : ∀ a ∈ kl, a < (wD q).length := by rw [wD_len]; exact h.b1
  simp only [odsA, List.mem_cons, List.not_mem_nil, or_false] at hp
  rcases hp with rfl | rfl | rfl | rfl | rfl | rfl | rfl
  · exact ⟨_, _, rfl, fall_no2 c S hd hw h.a1 hk (.inl (noL_non c)), .inr (.inl ⟨li_ok c S h.a1 (by omega) h.b1, li_non c S _⟩)⟩
  · exact ⟨_, _, rfl, fall_no1 c S hd (noL_non c), .inl (li_non c S _)⟩
  · exact ⟨_, _, rfl, fall_no2 c S hd hw h.a1 hk (.inr (by rw [wD_len])), .inr (.inl ⟨li_ok c S h.a1 (by omega) h.b1, li_big c S _⟩)⟩
  · exact ⟨_, _, rfl, fall_no1 c S hd (noL_lst c _), .inl (li_lst c S _ _)⟩
  · exact ⟨_, _, rfl, fall_no1 c S hd (noL_tr c), .inl (li_tr c S _)⟩
  · exact ⟨_, _, rfl, fall_no1 c S hd (noL_00 c), .inl (li_00 c S _)⟩
  · exact ⟨_, _, rfl, fall_no1 c S hd (noL_m1 c), .inl (li_m1 c S _)⟩
theorem pairs_ok2 {d ce wa : Nat} {q : List (Nat × D)} (hd : S[d]? = some (dO c ce wa)) (hw : S[wa]? = some (.lst (wD q))) (h0 : 0 < q.length) : ∀ p ∈ odsB, ∃ x y, p = .tup [x, y] ∧ PairOk c S d q.length x y := by
  intro p hp
  have a0 : Asc [0] := ⟨by simp, by simp⟩
  have l0 : ∀ a ∈ [0], a < (wD q).length := by rw [wD_len]; simpa using h0
  have l1 : ∀ a ∈ [0], a < q.length := by simpa using h0
  simp only [odsB, List.mem_cons, List.not_mem_nil, or_false] at hp
  rcases hp with rfl | rfl
  · exact ⟨_, _, rfl, fall_no3 c S (kl := [0]) (tl := [0]) hd hw a0 l0 a0 l0 (by decide), .inr (.inr ⟨rfl, rfl, li_ok c S (l := [0]) a0 (by simp) l1⟩)⟩
  · exact ⟨_, _, rfl, fall_no1 c S hd (noL_10 c), .inl (li_10 c S _)⟩
/-! ### is the queue empty -/
def rowP (x : D) : PyData := match x with
  | .tup [.str s, .int j, .tup [.int r, .int i]] => .tuple [.str s, .int j, .tuple [.int r, .int i]]
  | _ => .none
def qP (q : List (Nat × D)) : List PyData := q.map fun p => .tuple [.int (p.1 : Nat), rowP p.2]
theorem qP_cons (p : Nat × D) (q : List (Nat × D)) : qP (p :: q) = .tuple [.int (p.1 : Nat), rowP p.2] :: qP q := rfl
theorem rowP_row (j r : Nat) : rowP (rowD j r) = .tuple [.str "row", .int (j : Nat), .tuple [.int (r : Nat), .int (j : Nat)]] := rfl
theorem flat_q : ∀ {q : List (Nat × D)}, (∀ p ∈ q, IsR p.2) → flatPs (wD q) = some (qP q)
  | [], _ => rfl
  | p :: q, h => by
    have ih := flat_q fun x hx => h x (List.mem_cons_of_mem _ hx)
    obtain ⟨j, r, e⟩ := h p (List.mem_cons_self ..)
    unfold wD at ih ⊢
    rw [List.map_cons]
    simp only [flatPs, flatP, ih, e, rowD, qP, List.map_cons, rowP, Option.map_some, Option.bind_some]
theorem shaped_q : ∀ {q : List (Nat × D)}, (∀ p ∈ q, IsR p.2) → SeqAt.shaped (.list (qP q)) = true := fun {q} h => by
  have lay : PyData.canLayAll0 (qP q) = true := by
    induction q with
    | nil => rfl
    | cons p q ih =>
      have ih := ih fun x hx => h x (List.mem_cons_of_mem _ hx)
      obtain ⟨j, r, e⟩ := h p (List.mem_cons_self ..)
      have hs : PyData.canLay0 (.str "row") = true := by decide +kernel
      rw [qP_cons, e, rowP_row]
      simp only [PyData.canLayAll0, PyData.canLay0]
      simp only [PyData.canLay0] at hs
      simp [ih, hs]
  have dep : PyData.depthAll (qP q) ≤ 10 := by
    induction q with
    | nil => simp [qP, PyData.depthAll]
    | cons p q ih =>
      have ih := ih (fun x hx => h x (List.mem_cons_of_mem _ hx)) (by
        rw [qP_cons] at lay
        simp only [PyData.canLayAll0, Bool.and_eq_true] at lay
        exact lay.2)
      obtain ⟨j, r, e⟩ := h p (List.mem_cons_self ..)
      rw [qP_cons, e, rowP_row]
      simp only [PyData.depthAll, PyData.depth]
      omega
  unfold SeqAt.shaped
  rw [Bool.and_eq_true_iff]
  exact ⟨by simp only [PyData.canLay0]; exact lay, decide_eq_true (by simp only [PyData.depth]; omega)⟩
theorem ne_emp {ql : Nat} {q : List (Nat × D)} (h : ∀ p ∈ q, IsR p.2) (hq : S[ql]? = some (.lst (wD q))) : fNe (.ref ql) (.lst []) S = .ok (.bl (decide (q ≠ []))) S := by
  have e1 : toP S (.ref ql) = some (.list (qP q)) := by simp only [toP, hq, flat_q h, Option.map_some]
  have e2 : toP S (.lst []) = some (.list []) := rfl
  have e3 : SeqAt.shaped (.list []) = true := rfl
  unfold fNe eqD
  rw [e1, e2]
  simp only [shaped_q h, e3, and_self, if_true]
  cases q <;> simp [qP, PyData.eqv, PyData.eqvAll, rB]
theorem in_lst (p : Nat) (l : List Nat) : fInA false (.int (p : Nat)) (.lst (natD l)) S = .ok (.bl (decide (p ∈ l))) S := by
  have e0 : fInA false (.int (p : Nat)) (.lst (natD l)) S = fIn (.int (p : Nat)) (.lst (natD l)) S := rfl
  have e1 : toP S (.int (p : Nat)) = some (.int (p : Nat)) := rfl
  have e2 : toP S (.lst (natD l)) = some (.list (l.map fun a : Nat => PyData.int (a : Nat))) := by simp only [toP, toPs_nat S, Option.map_some]
  have e3 : SeqAt.shaped (.int (p : Nat)) = true := by
    unfold SeqAt.shaped
    rw [Bool.and_eq_true_iff]
    exact ⟨rfl, decide_eq_true (by simp [PyData.depth])⟩
  rw [e0]
  unfold fIn
  rw [e1, e2]
  simp only [e3, shaped_nat, and_self, if_true]
  congr 2
  rw [List.any_map, Bool.eq_iff_iff, List.any_eq_true, decide_eq_true_eq]
  constructor
  · rintro ⟨x, hx, h⟩
    simp only [Function.comp_apply, PyData.eqv] at h
    have : x = p := by
      have := of_decide_eq_true h
      omega
    exact this ▸ hx
  · intro h
    exact ⟨p, h, by simp [PyData.eqv]⟩
end Z.k64
namespace Z.k64
open PySem L2 Z
variable (c : Ad)
section
variable {S : Sto} {b d ce wa cl ql n : Nat} {cs : List D} {q : List (Nat × D)}
theorem Wd.ne (w : Wd c S b d ce wa cl ql cs q n) : b ≠ d ∧ b ≠ ce ∧ b ≠ wa ∧ b ≠ cl ∧ b ≠ ql ∧ d ≠ ce ∧ d ≠ wa ∧ d ≠ cl ∧ d ≠ ql ∧ ce ≠ wa ∧ ce ≠ cl ∧ ce ≠ ql ∧ wa ≠ cl ∧ wa ≠ ql ∧ cl ≠ ql := by
  have := w.nd
  simp only [List.nodup_cons, List.mem_cons, List.not_mem_nil, or_false, not_or, not_false_eq_true, List.nodup_nil, and_true] at this
  omega
theorem Wd.b0 (w : Wd c S b d ce wa cl ql cs q n) : b ≠ 0 := by
  obtain ⟨z, st, ct, h⟩ := w.hb
  exact ne_zero w.tb h fun P q e => by cases e
theorem Wd.box (w : Wd c S b d ce wa cl ql cs q n) (z st ct : Int) : Wd c (S.set b (boxO z st ct)) b d ce wa cl ql cs q n := by
  obtain ⟨n1, n2, n3, n4, n5, _⟩ := w.ne c
  obtain ⟨z0, st0, ct0, h0⟩ := w.hb
  exact ⟨isTab_set w.tb (w.b0 c), ⟨z, st, ct, set_get h0⟩, by rw [set_get_ne n1]; exact w.hd, by rw [set_get_ne n2]; exact w.hce, by rw [set_get_ne n3]; exact w.hwa, by rw [set_get_ne n4]; exact w.hcl, by rw [set_get_ne n5]; exact w.hql, w.nd, w.len, w.sl, w.sm, w.sq, w.n3⟩
theorem Wd.take (w : Wd c S b d ce wa cl ql cs q n) (many : Nat) (h0 : 0 < many) (h1 : many ≤ 1000000) : ∃ r S', r < many ∧ F__law_take c [.ref b, .int many] S = .ok (.int (r : Nat)) S' ∧ Wd c S' b d ce wa cl ql cs q n := by
  obtain ⟨z, st, ct, h⟩ := w.hb
  obtain ⟨r, z', st', ct', hr, e⟩ := take_i c S h many h0 h1
  exact ⟨r, _, hr, e, w.box c z' st' ct'⟩
/-- what is there behind a flush, a fall, and the law's cut -/
def newS (c : Ad) (S : Sto) (d ce : Nat) (X : List D) : Sto := ((((S.set ce (.lst X)) ++ [O.lst []]).set d (dO c ce S.length)) ++ [.lst X]) ++ [.lst []]
theorem Wd.new (w : Wd c S b d ce wa cl ql cs q n) {X : List D} (hX : X.length = n) (hs : CsOk X) : Wd c (newS c S d ce X) b d ce S.length (S.length + 1) (S.length + 2) X [] n := by
  obtain ⟨n1, n2, n3, n4, n5, n6, n7, n8, n9, n10, _⟩ := w.ne c
  obtain ⟨z0, st0, ct0, h0⟩ := w.hb
  have lb := get_lt h0
  have ld := get_lt w.hd
  have lc := get_lt w.hce
  have d0 : d ≠ 0 := ne_zero w.tb w.hd fun P q e => by cases e
  have c0 : ce ≠ 0 := ne_zero w.tb w.hce fun P q e => by cases e
  obtain ⟨S1, hS1⟩ : ∃ S1, S1 = S.set ce (.lst X) := ⟨_, rfl⟩
  have l1 : S1.length = S.length := by rw [hS1]; simp
  obtain ⟨S2, hS2⟩ : ∃ S2, S2 = (S1 ++ [O.lst []]).set d (dO c ce S.length) := ⟨_, rfl⟩
  have l2 : S2.length = S.length + 1 := by rw [hS2]; simp [l1]
  have t1 : isTab S1 = some (c.tab, ("law.<locals>.<lambda>" : Str)) := by rw [hS1]; exact isTab_set w.tb c0
  have t2 : isTab S2 = some (c.tab, ("law.<locals>.<lambda>" : Str)) := by rw [hS2]; exact isTab_set (isTab_app t1) d0
  have old : ∀ i, i < S.length → i ≠ d → S2[i]? = S1[i]? := fun i hi hd => by
    rw [hS2, set_get_ne (Ne.symm hd), List.getElem?_append_left (by omega)]
  have b2 : S2[b]? = some (boxO z0 st0 ct0) := by
    rw [old b lb n1, hS1, set_get_ne (Ne.symm n2)]
    exact h0
  have c2 : S2[ce]? = some (.lst X) := by
    rw [old ce lc (Ne.symm n6), hS1]
    exact set_get w.hce
  have d2 : S2[d]? = some (dO c ce S.length) := by
    have : (S1 ++ [O.lst []])[d]? = some (dO c ce wa) := by
      rw [List.getElem?_append_left (by omega), hS1, set_get_ne (Ne.symm n6)]
      exact w.hd
    rw [hS2]
    exact set_get this
  have w2 : S2[S.length]? = some (.lst []) := by
    rw [hS2, set_get_ne (by omega), List.getElem?_append_right (by omega), l1]
    simp
  have e : newS c S d ce X = (S2 ++ [.lst X]) ++ [.lst []] := by
    unfold newS
    rw [← hS1, ← hS2]
  rw [e]
  refine ⟨isTab_app (isTab_app t2), ⟨z0, st0, ct0, app_get (app_get b2)⟩, app_get (app_get d2), app_get (app_get c2), app_get (app_get w2), ?_, ?_, ?_, hX, fun p hp => (by cases hp), hs, fun p hp => (by cases hp), w.n3⟩
  · refine app_get ?_
    rw [List.getElem?_append_right (by omega), l2]
    simp
  · rw [List.getElem?_append_right (by simp [l2])]
    simp [l2, wD]
  · simp only [List.nodup_cons, List.mem_cons, List.not_mem_nil, or_false, not_or, not_false_eq_true, List.nodup_nil, and_true]
    omega
/-- a row put -/
theorem kA (w : Wd c S b d ce wa cl ql cs q n) {j : Nat} (hq : q.length ≤ j) (hj : j < 30) (a0 a1 a2 a9 a10 a11 a12 a13 a14 a15 a16 a17 a18 a19 : Option D) :
    ∃ (S' : Sto) (q' : List (Nat × D)) (b10 b11 : Option D), (sSeq (sPar 10 11 (eFn 2 (F__law_take c) (dl__law_take.drop 0) (aC (eV 3) (aC (eV 4) aN))) (eTup (aC (eC (.str "row")) (aC (eV 8) (aC (eTup (aC (eFn 2 (F__law_take c) (dl__law_take.drop 0) (aC (eV 3) (aC (eC (.int 9)) aN))) (aC (eV 8) aN))) aN)))))
  (sSeq (sDrop (eMt c.cs "put" c.CutDisk 3 (F_CutDisk_put c) (dl_CutDisk_put.drop 0) (eV 5) (aC (eV 10) (aC (eV 11) aN))))
  (sDrop (eBM fApp (eV 7) (aC (eTup (aC (eV 10) (aC (eV 11) aN))) aN))))) [a0, a1, a2, some (.ref b), some (.int (n : Nat)), some (.ref d), some (.ref cl), some (.ref ql), some (.int (j : Nat)), a9, a10, a11, a12, a13, a14, a15, a16, a17, a18, a19] S = .nx [a0, a1, a2, some (.ref b), some (.int (n : Nat)), some (.ref d), some (.ref cl), some (.ref ql), some (.int (j : Nat)), a9, b10, b11, a12, a13, a14, a15, a16, a17, a18, a19] S' ∧ Wd c S' b d ce wa cl ql cs q' n ∧ q'.length ≤ j + 1 := by
  have n3 := w.n3
  obtain ⟨r1, S2, hr1, e1, w2⟩ := w.take c n (by omega) (by omega)
  obtain ⟨r2, S3, hr2, e2, w3⟩ := w2.take c 9 (by omega) (by omega)
  have e2' : F__law_take c [.ref b, .int 9] S2 = .ok (.int (r2 : Nat)) S3 := e2
  obtain ⟨n1, n2, n3', n4, n5, n6, n7, n8, n9, n10, n11, n12, n13, n14, n15⟩ := w3.ne c
  have wq : wD (q ++ [(r1, rowD j r2)]) = wD q ++ [.tup [.int (r1 : Nat), rowD j r2]] := by simp [wD]
  have p1 := put_i c S3 w3.hd w3.hwa (by rw [wD_len]; omega) (.int (r1 : Nat)) (rowD j r2)
  rw [← wq] at p1
  obtain ⟨S4, hS4⟩ : ∃ S4, S4 = S3.set wa (.lst (wD (q ++ [(r1, rowD j r2)]))) := ⟨_, rfl⟩
  rw [← hS4] at p1
  have q4 : S4[ql]? = some (.lst (wD q)) := by rw [hS4, set_get_ne n14]; exact w3.hql
  have wa0 : wa ≠ 0 := ne_zero w3.tb w3.hwa fun P q e => by cases e
  have ql0 : ql ≠ 0 := ne_zero w3.tb w3.hql fun P q e => by cases e
  refine ⟨S4.set ql (.lst (wD (q ++ [(r1, rowD j r2)]))), q ++ [(r1, rowD j r2)], some (.int (r1 : Nat)), some (rowD j r2), ?_, ?_, by simp; omega⟩
  · rw [seq_par (d := .int (r1 : Nat)) (S1 := S2) (e := rowD j r2) (S' := S3) (by simp [eFn, aC, aN, eV, dl__law_take, e1]) (by simp [eTup, eFn, aC, aN, eV, eC, dl__law_take, e2', rowD])]
    have m := meth_i c S3 ne7 ne8 w3.hd (ρ := [a0, a1, a2, some (.ref b), some (.int (n : Nat)), some (.ref d), some (.ref cl), some (.ref ql), some (.int (j : Nat)), a9, some (.int (r1 : Nat)), some (rowD j r2), a12, a13, a14, a15, a16, a17, a18, a19]) (a := eV 5) (by simp [eV]) 3 (F_CutDisk_put c) [] (aC (eV 10) (aC (eV 11) aN))
    have m2 : eMt c.cs "put" c.CutDisk 3 (F_CutDisk_put c) (dl_CutDisk_put.drop 0) (eV 5) (aC (eV 10) (aC (eV 11) aN)) [a0, a1, a2, some (.ref b), some (.int (n : Nat)), some (.ref d), some (.ref cl), some (.ref ql), some (.int (j : Nat)), a9, some (.int (r1 : Nat)), some (rowD j r2), a12, a13, a14, a15, a16, a17, a18, a19] S3 = .ok .non S4 := by
      simp only [dl_CutDisk_put, List.drop_nil]
      rw [m]
      simp [aC, aN, eV, p1]
    show sSeq _ _ [a0, a1, a2, some (.ref b), some (.int (n : Nat)), some (.ref d), some (.ref cl), some (.ref ql), some (.int (j : Nat)), a9, some (.int (r1 : Nat)), some (rowD j r2), a12, a13, a14, a15, a16, a17, a18, a19] S3 = _
    rw [seq_drop m2]
    rw [drop_app (S1 := S4) (x := .tup [.int (r1 : Nat), rowD j r2]) (q := ql) (by simp [eV]) q4 (by simp [eTup, aC, aN, eV]) q4 (by rw [wD_len]; omega), ← wq]
  · obtain ⟨z0, st0, ct0, h0⟩ := w3.hb
    refine ⟨isTab_set (by rw [hS4]; exact isTab_set w3.tb wa0) ql0, ⟨z0, st0, ct0, ?_⟩, ?_, ?_, ?_, ?_, set_get q4, w3.nd, w3.len, fun p hp => ?_, w3.sm, fun p hp => ?_, w3.n3⟩
    · rw [set_get_ne (Ne.symm n5), hS4, set_get_ne (Ne.symm n3')]; exact h0
    · rw [set_get_ne (Ne.symm n9), hS4, set_get_ne (Ne.symm n7)]; exact w3.hd
    · rw [set_get_ne (Ne.symm n12), hS4, set_get_ne (Ne.symm n10)]; exact w3.hce
    · rw [set_get_ne (Ne.symm n14), hS4]; exact set_get w3.hwa
    · rw [set_get_ne (Ne.symm n15), hS4, set_get_ne n13]; exact w3.hcl
    · rcases List.mem_append.mp hp with h | h
      · exact w3.sl p h
      · simp at h
        subst h
        exact hr1
    · rcases List.mem_append.mp hp with h | h
      · exact w3.sq p h
      · simp at h
        subst h
        exact ⟨j, r2, rfl⟩
/-- the law's own cut and a new queue, behind the disk's -/
theorem cut_new (w : Wd c S b d ce wa cl ql cs q n) (hq : q.length ≤ 1000) (kp tn : Nat → Bool) {Kd Td : D} {ek et : DE} {ρ : Env} (hk : ∀ S j, j < q.length → fInA false (.int (j : Nat)) Kd S = .ok (.bl (kp j)) S) (ht : ∀ S j, j < q.length → fInA false (.int (j : Nat)) Td S = .ok (.bl (tn j)) S)
    (h6 : ∀ S, eV 6 ρ S = .ok (.ref cl) S) (h7 : ∀ S, eV 7 ρ S = .ok (.ref ql) S) (hek : ∀ S, S[ql]? = some (.lst (wD q)) → ek ρ S = .ok Kd S) (het : ∀ S, et ρ S = .ok Td S) :
    sPar 6 7 (eFn 4 (F__law_cut c) (dl__law_cut.drop 0) (aC (eV 6) (aC (eV 7) (aC ek (aC et aN))))) (eLN aN) ρ (((S.set ce (.lst (cutT kp tn cs q q.length))) ++ [O.lst []]).set d (dO c ce S.length)) = .nx ((ρ.set 6 (some (.ref (S.length + 1)))).set 7 (some (.ref (S.length + 2)))) (newS c S d ce (cutT kp tn cs q q.length)) := by
  obtain ⟨n1, n2, n3', n4, n5, n6, n7, n8, n9, n10, n11, n12, n13, n14, n15⟩ := w.ne c
  obtain ⟨X, hX⟩ : ∃ X, X = cutT kp tn cs q q.length := ⟨_, rfl⟩
  obtain ⟨S2, hS2⟩ : ∃ S2, S2 = ((S.set ce (.lst X)) ++ [O.lst []]).set d (dO c ce S.length) := ⟨_, rfl⟩
  have l2 : S2.length = S.length + 1 := by rw [hS2]; simp
  have old : ∀ i o, S[i]? = some o → i ≠ d → i ≠ ce → S2[i]? = some o := fun i o hi hd hce => by
    have := get_lt hi
    rw [hS2, set_get_ne (Ne.symm hd), List.getElem?_append_left (by simp; omega), set_get_ne (Ne.symm hce)]
    exact hi
  have c2 := old cl _ w.hcl (Ne.symm n8) (Ne.symm n11)
  have q2 := old ql _ w.hql (Ne.symm n9) (Ne.symm n12)
  have n3 := w.n3
  have hl := w.len
  have cu := cut_i c S2 c2 q2 (by rw [hl]; exact w.sl) hq (by omega) kp tn hk ht
  rw [← hX] at cu ⊢
  rw [← hS2]
  have v1 := hek S2 q2
  have l3 : (S2 ++ [O.lst X]).length = S.length + 2 := by simp [l2]
  have eN : newS c S d ce X = (S2 ++ [.lst X]) ++ [.lst []] := by
    unfold newS
    rw [← hS2]
  rw [eN]
  simp [sPar, eFn, aC, aN, h6, h7, v1, het, dl__law_cut, cu, eLN, l2]
end
end Z.k64
namespace Z.k64
open PySem L2 Z
variable (c : Ad)
section
variable {S : Sto} {b d ce wa cl ql n : Nat} {cs : List D} {q : List (Nat × D)}
theorem range_natD (n : Nat) : iRow 0 n = natD (List.range n) := iRow_map0 n
theorem ek_i {S : Sto} {ρ : Env} (h7 : ∀ S, eV 7 ρ S = .ok (.ref ql) S) (hq : q.length ≤ 1000) (hS : S[ql]? = some (.lst (wD q))) : eLV (lRange (eCall fLen (aC (eV 7) aN))) ρ S = .ok (.lst (natD (List.range q.length))) S := by
  have g1 : (0 : Int) ≤ (q.length : Int) := by omega
  have g2 : (q.length : Int) ≤ 16777216 := by omega
  simp [eLV, lRange, eCall, aC, aN, h7, fLen, seqOf, hS, wD_len, gRange, g2, range_natD]
theorem kB (w : Wd c S b d ce wa cl ql cs q n) (hq : q.length ≤ 1000) (a0 a1 a2 a8 a9 a10 a11 a12 a13 a14 a15 a16 a17 a18 a19 : Option D) :
    ∃ (S' : Sto) (wa' cl' ql' : Nat) (X : List D), (sSeq (sDrop (eMt c.cs "flush" c.CutDisk 1 (F_CutDisk_flush c) (dl_CutDisk_flush.drop 0) (eV 5) aN))
  (sPar 6 7 (eFn 4 (F__law_cut c) (dl__law_cut.drop 0) (aC (eV 6) (aC (eV 7) (aC (eLV (lRange (eCall fLen (aC (eV 7) aN)))) (aC (eLV aN) aN))))) (eLN aN))) [a0, a1, a2, some (.ref b), some (.int (n : Nat)), some (.ref d), some (.ref cl), some (.ref ql), a8, a9, a10, a11, a12, a13, a14, a15, a16, a17, a18, a19] S = .nx [a0, a1, a2, some (.ref b), some (.int (n : Nat)), some (.ref d), some (.ref cl'), some (.ref ql'), a8, a9, a10, a11, a12, a13, a14, a15, a16, a17, a18, a19] S' ∧ Wd c S' b d ce wa' cl' ql' X [] n := by
  obtain ⟨n1, n2, n3', n4, n5, n6, n7, n8, n9, n10, n11, n12, n13, n14, n15⟩ := w.ne c
  have hl := w.len
  have fl := flush_i c S w.hd w.hce w.hwa (Ne.symm n6) n10 (by rw [hl]; exact w.sl)
  have m := meth_i c S ne9 ne10 w.hd (ρ := [a0, a1, a2, some (.ref b), some (.int (n : Nat)), some (.ref d), some (.ref cl), some (.ref ql), a8, a9, a10, a11, a12, a13, a14, a15, a16, a17, a18, a19]) (a := eV 5) (by simp [eV]) 1 (F_CutDisk_flush c) [] aN
  have h6 : ∀ S, eV 6 [a0, a1, a2, some (.ref b), some (.int (n : Nat)), some (.ref d), some (.ref cl), some (.ref ql), a8, a9, a10, a11, a12, a13, a14, a15, a16, a17, a18, a19] S = .ok (.ref cl) S := fun S => by simp [eV]
  have h7 : ∀ S, eV 7 [a0, a1, a2, some (.ref b), some (.int (n : Nat)), some (.ref d), some (.ref cl), some (.ref ql), a8, a9, a10, a11, a12, a13, a14, a15, a16, a17, a18, a19] S = .ok (.ref ql) S := fun S => by simp [eV]
  have cn := cut_new c w hq (fun _ => true) (fun _ => false) (Kd := .lst (natD (List.range q.length))) (Td := .lst []) (ek := eLV (lRange (eCall fLen (aC (eV 7) aN)))) (et := eLV aN) (fun S j hj => by rw [in_lst]; simp [hj]) (fun S j hj => by
    have := in_lst S j []
    simpa [natD] using this) h6 h7 (fun S hS => ek_i h7 hq hS) (fun S => by simp [eLV, aN])
  have m2 : eMt c.cs "flush" c.CutDisk 1 (F_CutDisk_flush c) (dl_CutDisk_flush.drop 0) (eV 5) aN [a0, a1, a2, some (.ref b), some (.int (n : Nat)), some (.ref d), some (.ref cl), some (.ref ql), a8, a9, a10, a11, a12, a13, a14, a15, a16, a17, a18, a19] S = .ok .non (((S.set ce (.lst (cutT (fun _ => true) (fun _ => false) cs q q.length))) ++ [O.lst []]).set d (dO c ce S.length)) := by
    simp only [dl_CutDisk_flush, List.drop_nil]
    rw [m]
    simp [aN, fl]
  refine ⟨_, _, _, _, _, ?_, w.new c (X := cutT (fun _ => true) (fun _ => false) cs q q.length) (by rw [cutT_len]; exact hl) (cutT_ok w.sm w.sq _)⟩
  rw [seq_drop m2]
  exact cn
theorem kC (w : Wd c S b d ce wa cl ql cs q n) (hq : q.length < 60) (a0 a1 a2 a8 a9 a10 a11 a12 a13 a14 a15 a16 a17 a18 a19 : Option D) :
    ∃ (S' : Sto) (wa' cl' ql' : Nat) (X : List D) (b12 b13 b14 b15 b16 b17 b18 b19 : Option D), (sSeq (sAsg (.tp [(.nm 12), (.nm 13)]) (eFn 2 (F__law_lots c) (dl__law_lots.drop 0) (aC (eV 3) (aC (eCall fLen (aC (eV 7) aN)) aN))))
  (sSeq (sSet 14 (eLV (aC (eTup (aC (eV 12) (aC (eC .non) aN))) (aC (eTup (aC (eC .non) (aC (eV 13) aN))) (aC (eTup (aC (eV 12) (aC (eTup (aC (eCall fLen (aC (eV 7) aN)) aN)) aN))) (aC (eTup (aC (eLV (lList (aC (eV 12) aN))) (aC (eV 13) aN))) (aC (eTup (aC (eTup (aC (eC (.bl true)) aN)) (aC (eTup aN) aN))) (aC (eTup (aC (eTup (aC (eC (.int 0)) (aC (eC (.int 0)) aN))) (aC (eTup aN) aN))) (aC (eTup (aC (eTup (aC (Z.e1 fNeg (eC (.int 1))) aN)) (aC (eTup aN) aN))) aN)))))))))
  (sSeq (sIf (tVB (Z.e2 fNe (eV 7) (eLV aN))) (sSet 14 (eLV (lCat (eV 14) (eLV (aC (eTup (aC (eTup (aC (eC (.int 0)) aN)) (aC (eTup (aC (eC (.int 0)) aN)) aN))) (aC (eTup (aC (eTup (aC (eC (.int 1)) (aC (eC (.int 0)) aN))) (aC (eTup aN) aN))) aN)))))) sNx)
  (sSeq (sFor (.tp [(.nm 15), (.nm 16)]) (iSeq (eLV (lLc (.nm 17) (iR1 (eC (.int 3))) tYes (eFn 2 (F__law_pick c) (dl__law_pick.drop 0) (aC (eV 3) (aC (eV 14) aN))) [17]))) (lb_law_2 c))
  (sSeq (sDrop (eMt c.cs "fall" c.CutDisk 3 (F_CutDisk_fall c) (dl_CutDisk_fall.drop 0) (eV 5) (aC (eV 12) (aC (eV 13) aN))))
  (sPar 6 7 (eFn 4 (F__law_cut c) (dl__law_cut.drop 0) (aC (eV 6) (aC (eV 7) (aC (eV 12) (aC (eV 13) aN))))) (eLN aN))))))) [a0, a1, a2, some (.ref b), some (.int (n : Nat)), some (.ref d), some (.ref cl), some (.ref ql), a8, a9, a10, a11, a12, a13, a14, a15, a16, a17, a18, a19] S = .nx [a0, a1, a2, some (.ref b), some (.int (n : Nat)), some (.ref d), some (.ref cl'), some (.ref ql'), a8, a9, a10, a11, b12, b13, b14, b15, b16, b17, b18, b19] S' ∧ Wd c S' b d ce wa' cl' ql' X [] n := by
  have hl := w.len
  obtain ⟨z, st, ct, hb⟩ := w.hb
  obtain ⟨kl, tl, z2, st2, ct2, hL, hkl, e1⟩ := lots_i c S hb q.length (by omega)
  obtain ⟨S2, hS2⟩ : ∃ S2, S2 = S.set b (boxO z2 st2 ct2) := ⟨_, rfl⟩
  have w2 : Wd c S2 b d ce wa cl ql cs q n := by rw [hS2]; exact w.box c _ _ _
  rw [← hS2] at e1
  obtain ⟨ods, hods, hmem⟩ : ∃ ods, ods = (if q ≠ [] then odsA q.length kl tl ++ odsB else odsA q.length kl tl) ∧ ∀ p ∈ ods, p ∈ odsA q.length kl tl ∨ (0 < q.length ∧ p ∈ odsB) := ⟨_, rfl, fun p hp => by
    split at hp
    · rename_i hne
      rcases List.mem_append.mp hp with h | h
      · exact .inl h
      · exact .inr ⟨List.length_pos_iff.mpr hne, h⟩
    · exact .inl hp⟩
  have ol : 0 < ods.length ∧ ods.length ≤ 1000000 := by
    rw [hods]
    split <;> simp [odsA, odsB]
  -- the picks
  have ep : ∃ ps S3, lcI (.nm 17) (fun _ => True) tYes (eFn 2 (F__law_pick c) dl__law_pick (aC (eV 3) (aC (eV 14) aN))) [a0, a1, a2, some (.ref b), some (.int (n : Nat)), some (.ref d), some (.ref cl), some (.ref ql), a8, a9, a10, a11, some (.tup (natD kl)), some (.tup (natD tl)), some (.lst ods), a15, a16, none, a18, a19] (iRow 0 3) S2 = .ok ps S3 ∧ Wd c S3 b d ce wa cl ql cs q n ∧ ∀ p ∈ ps, p ∈ ods := by
    obtain ⟨ps, S3, f1, f2, f3, f4⟩ := lcI_state (tg := .nm 17) (chk := fun _ => True) (e := eFn 2 (F__law_pick c) dl__law_pick (aC (eV 3) (aC (eV 14) aN))) (ρ0 := [a0, a1, a2, some (.ref b), some (.int (n : Nat)), some (.ref d), some (.ref cl), some (.ref ql), a8, a9, a10, a11, some (.tup (natD kl)), some (.tup (natD tl)), some (.lst ods), a15, a16, none, a18, a19]) (fun S' => Wd c S' b d ce wa cl ql cs q n) (fun _ y => y ∈ ods) (fun _ _ => trivial) (iRow 0 3) S2 w2 fun x hx S' w' => by
      obtain ⟨z, st, ct, hb⟩ := w'.hb
      obtain ⟨y, z', st', ct', hy, e⟩ := pick_i c S' hb ods ol.1 ol.2
      refine ⟨_, asg_nm .., y, _, ?_, w'.box c z' st' ct', hy⟩
      simp [eFn, aC, aN, eV, dl__law_pick, e]
    refine ⟨ps, S3, f1, f2, fun p hp => ?_⟩
    obtain ⟨i, hi⟩ := List.mem_iff_getElem?.mp hp
    have hlt := get_lt hi
    obtain ⟨x, hx⟩ := get_of (xs := iRow 0 3) (i := i) (by omega)
    exact f4 i x p hx hi
  obtain ⟨ps, S3, e3, w3, hps⟩ := ep
  obtain ⟨n1, n2, n3', n4, n5, n6, n7, n8, n9, n10, n11, n12, n13, n14, n15⟩ := w3.ne c
  -- the odd ones
  have elp : ∃ b15 b16 b18, forI (.tp [(.nm 15), (.nm 16)]) (lb_law_2 c) (fun _ => True) ps [a0, a1, a2, some (.ref b), some (.int (n : Nat)), some (.ref d), some (.ref cl), some (.ref ql), a8, a9, a10, a11, some (.tup (natD kl)), some (.tup (natD tl)), some (.lst ods), a15, a16, a17, a18, a19] S3 = .nx [a0, a1, a2, some (.ref b), some (.int (n : Nat)), some (.ref d), some (.ref cl), some (.ref ql), a8, a9, a10, a11, some (.tup (natD kl)), some (.tup (natD tl)), some (.lst ods), b15, b16, a17, b18, a19] S3 := by
    obtain ⟨ρ', S', f1, hS', b15, b16, b18, hρ⟩ := forI_keep (tg := .tp [(.nm 15), (.nm 16)]) (chk := fun _ => True) (b := lb_law_2 c) (fun ρ S' => S' = S3 ∧ ∃ b15 b16 b18, ρ = [a0, a1, a2, some (.ref b), some (.int (n : Nat)), some (.ref d), some (.ref cl), some (.ref ql), a8, a9, a10, a11, some (.tup (natD kl)), some (.tup (natD tl)), some (.lst ods), b15, b16, a17, b18, a19]) ps [a0, a1, a2, some (.ref b), some (.int (n : Nat)), some (.ref d), some (.ref cl), some (.ref ql), a8, a9, a10, a11, some (.tup (natD kl)), some (.tup (natD tl)), some (.lst ods), a15, a16, a17, a18, a19] S3 ⟨rfl, a15, a16, a18, rfl⟩ fun p hp ρ S' hP => by
      obtain ⟨rfl, b15, b16, b18, rfl⟩ := hP
      have ok : ∃ x y, p = .tup [x, y] ∧ PairOk c S' d q.length x y := by
        rcases hmem p (hps p hp) with h | ⟨h0, h⟩
        · exact pairs_ok c S' w3.hd w3.hwa hq hL hkl p h
        · exact pairs_ok2 c S' w3.hd w3.hwa h0 p h
      obtain ⟨x, y, rfl, hok⟩ := ok
      obtain ⟨c18, q1⟩ := lw_2 c S' w3.tb w3.hd w3.hql hok a0 a1 a2 (some (.ref b)) (some (.int (n : Nat))) (some (.ref cl)) a8 a9 a10 a11 (some (.tup (natD kl))) (some (.tup (natD tl))) (some (.lst ods)) a17 b18 a19
      exact ⟨_, asg_p2 .., _, _, .inl (by simpa using q1), trivial, rfl, some x, some y, c18, rfl⟩
    rw [hS', hρ] at f1
    exact ⟨b15, b16, b18, f1⟩
  obtain ⟨b15, b16, b18, e4⟩ := elp
  have fl := fall_i c S3 w3.hd w3.hce w3.hwa (Ne.symm n6) n10 (by rw [w3.len]; exact w3.sl) (by omega) hL.a1 hL.b1 hL.a2 hL.b2 hL.no
  have m := meth_i c S3 ne11 ne12 w3.hd (ρ := [a0, a1, a2, some (.ref b), some (.int (n : Nat)), some (.ref d), some (.ref cl), some (.ref ql), a8, a9, a10, a11, some (.tup (natD kl)), some (.tup (natD tl)), some (.lst ods), b15, b16, a17, b18, a19]) (a := eV 5) (by simp [eV]) 3 (F_CutDisk_fall c) [] (aC (eV 12) (aC (eV 13) aN))
  have m2 : eMt c.cs "fall" c.CutDisk 3 (F_CutDisk_fall c) (dl_CutDisk_fall.drop 0) (eV 5) (aC (eV 12) (aC (eV 13) aN)) [a0, a1, a2, some (.ref b), some (.int (n : Nat)), some (.ref d), some (.ref cl), some (.ref ql), a8, a9, a10, a11, some (.tup (natD kl)), some (.tup (natD tl)), some (.lst ods), b15, b16, a17, b18, a19] S3 = .ok .non (((S3.set ce (.lst (cutT (fun i => decide (i ∈ kl)) (fun i => decide (i ∈ tl)) cs q q.length))) ++ [O.lst []]).set d (dO c ce S3.length)) := by
    simp only [dl_CutDisk_fall, List.drop_nil]
    rw [m]
    simp [aC, aN, eV, fl]
  have cn := cut_new c w3 (by omega) (fun i => decide (i ∈ kl)) (fun i => decide (i ∈ tl)) (Kd := .tup (natD kl)) (Td := .tup (natD tl)) (ek := eV 12) (et := eV 13) (ρ := [a0, a1, a2, some (.ref b), some (.int (n : Nat)), some (.ref d), some (.ref cl), some (.ref ql), a8, a9, a10, a11, some (.tup (natD kl)), some (.tup (natD tl)), some (.lst ods), b15, b16, a17, b18, a19]) (fun S j hj => in_nat S j kl) (fun S j hj => in_nat S j tl) (fun S => by simp [eV]) (fun S => by simp [eV]) (fun S _ => by simp [eV]) (fun S => by simp [eV])
  refine ⟨_, _, _, _, _, some (.tup (natD kl)), some (.tup (natD tl)), some (.lst ods), b15, b16, a17, b18, a19, ?_, w3.new c (X := cutT (fun i => decide (i ∈ kl)) (fun i => decide (i ∈ tl)) cs q q.length) (by rw [cutT_len]; exact hl) (cutT_ok w3.sm w3.sq _)⟩
  rw [seq_asg (d := .tup [.tup (natD kl), .tup (natD tl)]) (S' := S2) (ρ' := [a0, a1, a2, some (.ref b), some (.int (n : Nat)), some (.ref d), some (.ref cl), some (.ref ql), a8, a9, a10, a11, some (.tup (natD kl)), some (.tup (natD tl)), a14, a15, a16, a17, a18, a19]) (by simp [eFn, aC, aN, eV, eCall, fLen, seqOf, w.hql, wD_len, dl__law_lots, e1]) (by simp [Tg.asg, Tg.asgs, seqOf])]
  rw [seq_set (d := .lst (odsA q.length kl tl)) (S' := S2) (by simp [eLV, aC, aN, eTup, eV, eC, eCall, fLen, seqOf, w2.hql, wD_len, lList, gList, listD, Z.e1, fNeg, odsA])]
  show sSeq _ _ [a0, a1, a2, some (.ref b), some (.int (n : Nat)), some (.ref d), some (.ref cl), some (.ref ql), a8, a9, a10, a11, some (.tup (natD kl)), some (.tup (natD tl)), some (.lst (odsA q.length kl tl)), a15, a16, a17, a18, a19] S2 = _
  have tne : tVB (Z.e2 fNe (eV 7) (eLV aN)) [a0, a1, a2, some (.ref b), some (.int (n : Nat)), some (.ref d), some (.ref cl), some (.ref ql), a8, a9, a10, a11, some (.tup (natD kl)), some (.tup (natD tl)), some (.lst (odsA q.length kl tl)), a15, a16, a17, a18, a19] S2 = .ok (decide (q ≠ [])) S2 := by
    have := ne_emp S2 w2.sq w2.hql
    simp only [tVB, Z.e2, eV, eLV, aN, List.getElem?_cons_zero, List.getElem?_cons_succ, R.bind_ok, this]
  have sif : sIf (tVB (Z.e2 fNe (eV 7) (eLV aN))) (sSet 14 (eLV (lCat (eV 14) (eLV (aC (eTup (aC (eTup (aC (eC (.int 0)) aN)) (aC (eTup (aC (eC (.int 0)) aN)) aN))) (aC (eTup (aC (eTup (aC (eC (.int 1)) (aC (eC (.int 0)) aN))) (aC (eTup aN) aN))) aN)))))) sNx [a0, a1, a2, some (.ref b), some (.int (n : Nat)), some (.ref d), some (.ref cl), some (.ref ql), a8, a9, a10, a11, some (.tup (natD kl)), some (.tup (natD tl)), some (.lst (odsA q.length kl tl)), a15, a16, a17, a18, a19] S2 = .nx [a0, a1, a2, some (.ref b), some (.int (n : Nat)), some (.ref d), some (.ref cl), some (.ref ql), a8, a9, a10, a11, some (.tup (natD kl)), some (.tup (natD tl)), some (.lst ods), a15, a16, a17, a18, a19] S2 := by
    by_cases hne : q = []
    · have : decide (q ≠ []) = false := by simp [hne]
      rw [this] at tne
      rw [if_f tne, hods, if_neg (by simp [hne])]
      rfl
    · have : decide (q ≠ []) = true := by simp [hne]
      rw [this] at tne
      rw [if_t tne, hods, if_pos hne]
      have g : (odsA q.length kl tl).length + 2 ≤ 16777216 := by simp [odsA]
      simp [sSet, eLV, lCat, eV, aC, aN, eTup, eC, gCat, lstH, g, odsB]
  refine Eq.trans (seq_nx sif) ?_
  have i3 : iSeq (eLV (lLc (.nm 17) (iR1 (eC (.int 3))) tYes (eFn 2 (F__law_pick c) (dl__law_pick.drop 0) (aC (eV 3) (aC (eV 14) aN))) [17])) [a0, a1, a2, some (.ref b), some (.int (n : Nat)), some (.ref d), some (.ref cl), some (.ref ql), a8, a9, a10, a11, some (.tup (natD kl)), some (.tup (natD tl)), some (.lst ods), a15, a16, a17, a18, a19] S2 = .ok (ps, fun _ => True) S3 := by
    refine iseq_lv ?_
    have i17 : iR1 (eC (.int 3)) [a0, a1, a2, some (.ref b), some (.int (n : Nat)), some (.ref d), some (.ref cl), some (.ref ql), a8, a9, a10, a11, some (.tup (natD kl)), some (.tup (natD tl)), some (.lst ods), a15, a16, a17, a18, a19] S2 = .ok (iRow 0 3, fun _ => True) S2 := iR1_nat (n := 3) rfl (by omega)
    have i18 : (iRow 0 3).length ≤ 16777216 := by simp [iRow_len]
    simp only [dl__law_pick, List.drop_nil] at e3 ⊢
    obtain ⟨R3, hR3⟩ : ∃ R3, R3 = iRow 0 3 := ⟨_, rfl⟩
    rw [← hR3] at e3 i17 i18
    simp [lLc, i17, i18, wipeD, e3]
  refine Eq.trans (seq_nx (a := sFor _ _ (lb_law_2 c)) (Eq.trans (for_nx i3) e4)) ?_
  rw [seq_drop m2]
  exact cn
end
end Z.k64
namespace Z.k64
open PySem L2 Z
variable (c : Ad)
section
variable {S : Sto} {b d ce wa cl ql n : Nat} {cs : List D} {q : List (Nat × D)}
def En (a0 a1 a2 : Option D) (b n d : Nat) (ρ : Env) : Prop := ∃ (cl ql : Nat) (a8 a9 a10 a11 a12 a13 a14 a15 a16 a17 a18 a19 : Option D), ρ = [a0, a1, a2, some (.ref b), some (.int (n : Nat)), some (.ref d), some (.ref cl), some (.ref ql), a8, a9, a10, a11, a12, a13, a14, a15, a16, a17, a18, a19]
theorem lw_3 (w : Wd c S b d ce wa cl ql cs q n) {j : Nat} (hq : q.length ≤ j) (hj : j < 30) (a0 a1 a2 a9 a10 a11 a12 a13 a14 a15 a16 a17 a18 a19 : Option D) :
    ∃ (S' : Sto) (ce' wa' cl' ql' : Nat) (cs' : List D) (q' : List (Nat × D)) (b9 b10 b11 b12 b13 b14 b15 b16 b17 b18 b19 : Option D), lb_law_3 c [a0, a1, a2, some (.ref b), some (.int (n : Nat)), some (.ref d), some (.ref cl), some (.ref ql), some (.int (j : Nat)), a9, a10, a11, a12, a13, a14, a15, a16, a17, a18, a19] S = .nx [a0, a1, a2, some (.ref b), some (.int (n : Nat)), some (.ref d), some (.ref cl'), some (.ref ql'), some (.int (j : Nat)), b9, b10, b11, b12, b13, b14, b15, b16, b17, b18, b19] S' ∧ Wd c S' b d ce' wa' cl' ql' cs' q' n ∧ q'.length ≤ j + 1 := by
  obtain ⟨r, S1, hr, e1, w1⟩ := w.take c 8 (by omega) (by omega)
  have e1' : F__law_take c [.ref b, .int 8] S = .ok (.int (r : Nat)) S1 := e1
  have like : ∀ (S' : Sto) (ce' wa' cl' ql' : Nat) (cs' : List D) (q' : List (Nat × D)) (b8 b9 b10 b11 b12 b13 b14 b15 b16 b17 b18 b19 : Option D), Wd c S' b d ce' wa' cl' ql' cs' q' n → q'.length ≤ j + 1 → sIf (tNot (tV (eFn 3 (F__law_like c) (dl__law_like.drop 0) (aC (eV 5) (aC (eV 6) (aC (eV 7) aN)))))) (sRet (eC (.bl false))) sNx [a0, a1, a2, some (.ref b), some (.int (n : Nat)), some (.ref d), some (.ref cl'), some (.ref ql'), b8, b9, b10, b11, b12, b13, b14, b15, b16, b17, b18, b19] S' = .nx [a0, a1, a2, some (.ref b), some (.int (n : Nat)), some (.ref d), some (.ref cl'), some (.ref ql'), b8, b9, b10, b11, b12, b13, b14, b15, b16, b17, b18, b19] S' := fun S' ce' wa' cl' ql' cs' q' b8 b9 b10 b11 b12 b13 b14 b15 b16 b17 b18 b19 w' hq' => by
    have l := like_i c S' w' (by omega)
    simp [sIf, tNot, tV, eFn, aC, aN, eV, dl__law_like, l, tru, sNx]
  have t5 : tVB (Z.e2 fLt (eV 9) (eC (.int 5))) [a0, a1, a2, some (.ref b), some (.int (n : Nat)), some (.ref d), some (.ref cl), some (.ref ql), some (.int (j : Nat)), some (.int (r : Nat)), a10, a11, a12, a13, a14, a15, a16, a17, a18, a19] S1 = .ok (decide (r < 5)) S1 := by
    have e : decide ((r : Int) < 5) = decide (r < 5) := decide_eq_decide.mpr (by omega)
    simp [tVB, Z.e2, eV, eC, fLt_ii, e]
  have t6 : tVB (Z.e2 fEq (eV 9) (eC (.int 5))) [a0, a1, a2, some (.ref b), some (.int (n : Nat)), some (.ref d), some (.ref cl), some (.ref ql), some (.int (j : Nat)), some (.int (r : Nat)), a10, a11, a12, a13, a14, a15, a16, a17, a18, a19] S1 = .ok (decide (r = 5)) S1 := by
    have e : decide ((r : Int) = 5) = decide (r = 5) := decide_eq_decide.mpr (by omega)
    simp [tVB, Z.e2, eV, eC, fEq, rB, eqD_int, e]
  by_cases g1 : r < 5
  · obtain ⟨S', q', b10, b11, f1, w', hq'⟩ := kA c w1 hq hj a0 a1 a2 (some (.int (r : Nat))) a10 a11 a12 a13 a14 a15 a16 a17 a18 a19
    refine ⟨S', ce, wa, cl, ql, cs, q', some (.int (r : Nat)), b10, b11, a12, a13, a14, a15, a16, a17, a18, a19, ?_, w', hq'⟩
    unfold lb_law_3
    rw [seq_set (d := .int (r : Nat)) (S' := S1) (by simp [eFn, aC, aN, eV, eC, dl__law_take, e1'])]
    rw [decide_eq_true g1] at t5
    refine Eq.trans (seq_nx (Eq.trans (if_t t5) f1)) ?_
    exact like S' ce wa cl ql cs q' _ _ _ _ _ _ _ _ _ _ _ _ w' hq'
  · rw [decide_eq_false g1] at t5
    by_cases g2 : r = 5
    · obtain ⟨S', wa', cl', ql', X, f1, w'⟩ := kB c w1 (by omega) a0 a1 a2 (some (.int (j : Nat))) (some (.int (r : Nat))) a10 a11 a12 a13 a14 a15 a16 a17 a18 a19
      refine ⟨S', ce, wa', cl', ql', X, [], some (.int (r : Nat)), a10, a11, a12, a13, a14, a15, a16, a17, a18, a19, ?_, w', by simp⟩
      unfold lb_law_3
      rw [seq_set (d := .int (r : Nat)) (S' := S1) (by simp [eFn, aC, aN, eV, eC, dl__law_take, e1'])]
      rw [decide_eq_true g2] at t6
      refine Eq.trans (seq_nx (Eq.trans (if_f t5) (Eq.trans (if_t t6) f1))) ?_
      exact like S' ce wa' cl' ql' X [] _ _ _ _ _ _ _ _ _ _ _ _ w' (by simp)
    · obtain ⟨S', wa', cl', ql', X, b12, b13, b14, b15, b16, b17, b18, b19, f1, w'⟩ := kC c w1 (by omega) a0 a1 a2 (some (.int (j : Nat))) (some (.int (r : Nat))) a10 a11 a12 a13 a14 a15 a16 a17 a18 a19
      refine ⟨S', ce, wa', cl', ql', X, [], some (.int (r : Nat)), a10, a11, b12, b13, b14, b15, b16, b17, b18, b19, ?_, w', by simp⟩
      unfold lb_law_3
      rw [seq_set (d := .int (r : Nat)) (S' := S1) (by simp [eFn, aC, aN, eV, eC, dl__law_take, e1'])]
      rw [decide_eq_false g2] at t6
      refine Eq.trans (seq_nx (Eq.trans (if_f t5) (Eq.trans (if_f t6) f1))) ?_
      exact like S' ce wa' cl' ql' X [] _ _ _ _ _ _ _ _ _ _ _ _ w' (by simp)
def E4 (sc : Option D) (ρ : Env) : Prop := ∃ (a1 a2 a3 a4 a5 a6 a7 a8 a9 a10 a11 a12 a13 a14 a15 a16 a17 a18 a19 : Option D), ρ = [sc, a1, a2, a3, a4, a5, a6, a7, a8, a9, a10, a11, a12, a13, a14, a15, a16, a17, a18, a19]
theorem sm_non (n : Nat) : CsOk (List.replicate n .non) := fun x hx => by
  rw [(List.mem_replicate.mp hx).2]
  trivial
theorem lw_4 {ns : List Int} {k : Nat} (hk : k < 2) (tb : isTab S = some (c.tab, ("law.<locals>.<lambda>" : Str))) (a1 a3 a4 a5 a6 a7 a8 a9 a10 a11 a12 a13 a14 a15 a16 a17 a18 a19 : Option D) : ∃ ρ' S', lb_law_4 c [some (.scr (scrD ns)), a1, some (.int (k : Nat)), a3, a4, a5, a6, a7, a8, a9, a10, a11, a12, a13, a14, a15, a16, a17, a18, a19] S = .nx ρ' S' ∧ E4 (some (.scr (scrD ns))) ρ' ∧ isTab S' = some (c.tab, ("law.<locals>.<lambda>" : Str)) := by
  obtain ⟨z, st, e1⟩ := box_i c S ns k
  obtain ⟨S1, hS1⟩ : ∃ S1, S1 = S ++ [boxO z st 0] := ⟨_, rfl⟩
  have hb1 : S1[S.length]? = some (boxO z st 0) := by rw [hS1]; simp
  have tb1 : isTab S1 = some (c.tab, ("law.<locals>.<lambda>" : Str)) := by rw [hS1]; exact isTab_app tb
  have l1 : S1.length = S.length + 1 := by rw [hS1]; simp
  rw [← hS1] at e1
  obtain ⟨mn, hmn, hmn2⟩ : ∃ mn : Nat, (mn = 3 ∨ mn = 38) ∧ L2.atI [D.int 3, D.int 38] ((k : Nat) : Int) = some (.int (mn : Nat)) := by
    match k, hk with
    | 0, _ => exact ⟨3, .inl rfl, rfl⟩
    | 1, _ => exact ⟨38, .inr rfl, rfl⟩
  obtain ⟨r, z', st', ct', hr, e2⟩ := take_i c S1 hb1 mn (by omega) (by omega)
  obtain ⟨S2, hS2⟩ : ∃ S2, S2 = S1.set S.length (boxO z' st' ct') := ⟨_, rfl⟩
  rw [← hS2] at e2
  have l2 : S2.length = S.length + 1 := by rw [hS2]; simp [l1]
  have b0 : S.length ≠ 0 := fun e => by
    cases S with
    | nil => cases tb
    | cons a S => simp at e
  have tb2 : isTab S2 = some (c.tab, ("law.<locals>.<lambda>" : Str)) := by rw [hS2]; exact isTab_set tb1 b0
  have hb2 : S2[S.length]? = some (boxO z' st' ct') := by rw [hS2]; exact set_get hb1
  obtain ⟨n, hn⟩ : ∃ n, n = 3 + r := ⟨_, rfl⟩
  have en : (3 : Int) + (r : Int) = ((n : Nat) : Int) := by omega
  have n3 : 3 ≤ n ∧ n ≤ 40 := by omega
  have mk := mk_ok c S2 n3.1 n3.2
  obtain ⟨S3, hS3⟩ : ∃ S3, S3 = S2 ++ [dO c (S2.length + 1) (S2.length + 2), .lst (List.replicate n .non), .lst []] := ⟨_, rfl⟩
  rw [← hS3] at mk
  have l3 : S3.length = S2.length + 3 := by rw [hS3]; simp
  obtain ⟨S5, hS5⟩ : ∃ S5, S5 = (S3 ++ [.lst (List.replicate n .non)]) ++ [.lst []] := ⟨_, rfl⟩
  have g : ∀ (i : Nat) (o : O), [dO c (S2.length + 1) (S2.length + 2), .lst (List.replicate n .non), .lst []][i]? = some o → S5[S2.length + i]? = some o := fun i o h => by
    rw [hS5]
    refine app_get (app_get ?_)
    rw [hS3, List.getElem?_append_right (by omega)]
    have : S2.length + i - S2.length = i := by omega
    rw [this]
    exact h
  have w5 : Wd c S5 S.length S2.length (S2.length + 1) (S2.length + 2) (S2.length + 3) (S2.length + 4) (List.replicate n .non) [] n := by
    refine ⟨?_, ⟨z', st', ct', ?_⟩, g 0 _ rfl, g 1 _ rfl, g 2 _ rfl, ?_, ?_, ?_, by simp, fun p hp => (by cases hp), sm_non n, fun p hp => (by cases hp), n3⟩
    · rw [hS5, hS3]
      exact isTab_app (isTab_app (isTab_app tb2))
    · rw [hS5]
      refine app_get (app_get ?_)
      rw [hS3]
      exact app_get hb2
    · rw [hS5]
      refine app_get ?_
      rw [List.getElem?_append_right (by omega), l3]
      simp
    · rw [hS5, List.getElem?_append_right (by simp [l3])]
      simp [l3, wD]
    · simp only [List.nodup_cons, List.mem_cons, List.not_mem_nil, or_false, not_or, not_false_eq_true, List.nodup_nil, and_true]
      omega
  obtain ⟨ρ', S', f1, f2⟩ := forI_idx (tg := .nm 8) (chk := fun _ => True) (b := lb_law_3 c) (fun j ρ S' => ∃ (ce wa cl ql : Nat) (cs : List D) (q : List (Nat × D)), Wd c S' S.length S2.length ce wa cl ql cs q n ∧ q.length ≤ j ∧ ∃ (a8 a9 a10 a11 a12 a13 a14 a15 a16 a17 a18 a19 : Option D), ρ = [some (.scr (scrD ns)), a1, some (.int (k : Nat)), some (.ref S.length), some (.int (n : Nat)), some (.ref S2.length), some (.ref cl), some (.ref ql), a8, a9, a10, a11, a12, a13, a14, a15, a16, a17, a18, a19]) (iRow 0 30) [some (.scr (scrD ns)), a1, some (.int (k : Nat)), some (.ref S.length), some (.int (n : Nat)), some (.ref S2.length), some (.ref (S2.length + 3)), some (.ref (S2.length + 4)), a8, a9, a10, a11, a12, a13, a14, a15, a16, a17, a18, a19] S5 ⟨_, _, _, _, _, _, w5, by simp, _, _, _, _, _, _, _, _, _, _, _, _, rfl⟩ fun j x hx ρ S' hP => by
    obtain ⟨ce, wa, cl, ql, cs, q, w, hq, a8, a9, a10, a11, a12, a13, a14, a15, a16, a17, a18, a19, rfl⟩ := hP
    have hj := get_lt hx
    rw [iRow_len] at hj
    rw [iRow_get 0 30 j hj] at hx
    cases hx
    have e0 : (0 : Int) + (j : Nat) = (j : Nat) := by omega
    rw [e0]
    obtain ⟨S'', ce', wa', cl', ql', cs', q', b9, b10, b11, b12, b13, b14, b15, b16, b17, b18, b19, q1, q2, q3⟩ := lw_3 c w hq hj (some (.scr (scrD ns))) a1 (some (.int (k : Nat))) a9 a10 a11 a12 a13 a14 a15 a16 a17 a18 a19
    exact ⟨_, asg_nm .., _, _, .inl (by simpa using q1), trivial, ce', wa', cl', ql', cs', q', q2, q3, some (.int (j : Nat)), b9, b10, b11, b12, b13, b14, b15, b16, b17, b18, b19, rfl⟩
  obtain ⟨ce, wa, cl, ql, cs, q, w, hq, c8, c9, c10, c11, c12, c13, c14, c15, c16, c17, c18, c19, rfl⟩ := f2
  refine ⟨_, S', ?_, ⟨a1, some (.int (k : Nat)), some (.ref S.length), some (.int (n : Nat)), some (.ref S2.length), some (.ref cl), some (.ref ql), c8, c9, c10, c11, c12, c13, c14, c15, c16, c17, c18, c19, rfl⟩, w.tb⟩
  unfold lb_law_4
  rw [seq_set (d := .ref S.length) (S' := S1) (by simp [eFn, aC, aN, eV, dl__law_box, e1])]
  rw [seq_set (d := .int (n : Nat)) (S' := S2) (by simp [Z.e2, eC, eFn, aC, aN, eV, eLV, fIx, hmn2, dl__law_take, e2, fPlus, en])]
  have rn := rep_non n
  have k1 : (n : Int) ≤ 1000 := by omega
  rw [seq_asg (d := .tup [.ref S2.length, .ref (S2.length + 3), .ref (S2.length + 4)]) (S' := S5) (ρ' := [some (.scr (scrD ns)), a1, some (.int (k : Nat)), some (.ref S.length), some (.int (n : Nat)), some (.ref S2.length), some (.ref (S2.length + 3)), some (.ref (S2.length + 4)), a8, a9, a10, a11, a12, a13, a14, a15, a16, a17, a18, a19]) (by
    simp [eTup, aC, aN, eMk, eV, eC, dl_CutDisk_mk, mk, eLN, eLV, lRep, gRep, lstH, k1, rn, l3, hS5]) (by simp [Tg.asg, Tg.asgs, seqOf])]
  have i30 : iR1 (eC (.int 30)) [some (.scr (scrD ns)), a1, some (.int (k : Nat)), some (.ref S.length), some (.int (n : Nat)), some (.ref S2.length), some (.ref (S2.length + 3)), some (.ref (S2.length + 4)), a8, a9, a10, a11, a12, a13, a14, a15, a16, a17, a18, a19] S5 = .ok (iRow 0 30, fun _ => True) S5 := iR1_nat (n := 30) rfl (by omega)
  exact Eq.trans (for_nx i30) f1
/-- a value that is no disk -/
def badV : List D := [.int 2, .int 0, .int 41, .non, .bl true, .int (-3), .str "3", .tup [.int 3]]
theorem badV_no : ∀ x ∈ badV, ∀ (r : D) (S : Sto), F_CutDisk_mk c [r, x] S = .exc c.Refused (.str "slots") S := by
  intro x hx r S
  simp only [badV, List.mem_cons, List.not_mem_nil, or_false] at hx
  rcases hx with rfl | rfl | rfl | rfl | rfl | rfl | rfl | rfl
  · exact mk_bad c S (.inr ⟨2, rfl, by omega⟩) r
  · exact mk_bad c S (.inr ⟨0, rfl, by omega⟩) r
  · exact mk_bad c S (.inl (by rw [is_number_i]; rfl)) r
  · exact mk_bad c S (.inl (is_number_no c S (noI_non c) _)) r
  · exact mk_bad c S (.inl (is_number_no c S (noI_bl c true) _)) r
  · exact mk_bad c S (.inr ⟨-3, rfl, by omega⟩) r
  · exact mk_bad c S (.inl (is_number_no c S (noI_str c _) _)) r
  · exact mk_bad c S (.inl (is_number_no c S (noI_tup c _) _)) r
theorem lw_1 {x : D} (hx : x ∈ badV) (tb : isTab S = some (c.tab, ("law.<locals>.<lambda>" : Str))) (a0 a2 a3 a4 a5 a6 a7 a8 a9 a10 a11 a12 a13 a14 a15 a16 a17 a18 a19 : Option D) : lb_law_1 c [a0, some x, a2, a3, a4, a5, a6, a7, a8, a9, a10, a11, a12, a13, a14, a15, a16, a17, a18, a19] S = .nx [a0, some x, a2, a3, a4, a5, a6, a7, a8, a9, a10, a11, a12, a13, a14, a15, a16, a17, a18, a19] (S ++ [.ins c.CutDisk []]) := by
  have e := badV_no c x hx (.ref S.length) (S ++ [.ins c.CutDisk []])
  have r := ref_exc c (S' := S ++ [.ins c.CutDisk []]) (s := "slots") (de := eMk c.CutDisk 2 (F_CutDisk_mk c) (dl_CutDisk_mk.drop 0) (aC (eV 1) aN)) (ρ := [a0, some x, a2, a3, a4, a5, a6, a7, a8, a9, a10, a11, a12, a13, a14, a15, a16, a17, a18, a19]) tb (by simp [eMk, aC, aN, eV, dl_CutDisk_mk, e])
  have sm := same_i c (S ++ [.ins c.CutDisk []]) 6 (.tup [.str "refused", .str "slots"]) (sm_refused 4 "slots" (by decide +kernel))
  obtain ⟨RE, hRE⟩ : ∃ RE : DE, RE = eRef c.tab "law.<locals>.<lambda>" c.mt_Refused c.es "refused" (eMk c.CutDisk 2 (F_CutDisk_mk c) (dl_CutDisk_mk.drop 0) (aC (eV 1) aN)) := ⟨_, rfl⟩
  unfold lb_law_1
  rw [← hRE] at r ⊢
  refine Eq.trans (if_f (S' := S ++ [.ins c.CutDisk []]) ?_) rfl
  simp [tNot, tV, eFn, aC, aN, r, eTup, eC, dl__law_same, sm, tru]
end
theorem law_true (ns : List Int) (hn : ns.length ≤ 63) : ∃ S, F_law c [.scr (scrD ns)] [.tab c.tab "law.<locals>.<lambda>"] = .ok (.bl true) S := by
  have e20 : E4 (some (.scr (scrD ns))) [some (.scr (scrD ns)), none, none, none, none, none, none, none, none, none, none, none, none, none, none, none, none, none, none, none] := ⟨_, _, _, _, _, _, _, _, _, _, _, _, _, _, _, _, _, _, _, rfl⟩
  obtain ⟨ρ1, S1, f1, hE1, t1⟩ := forI_keep (tg := .nm 1) (chk := fun _ => True) (b := lb_law_1 c) (fun ρ S' => E4 (some (.scr (scrD ns))) ρ ∧ isTab S' = some (c.tab, ("law.<locals>.<lambda>" : Str))) badV [some (.scr (scrD ns)), none, none, none, none, none, none, none, none, none, none, none, none, none, none, none, none, none, none, none] [.tab c.tab "law.<locals>.<lambda>"] ⟨e20, rfl⟩ fun x hx ρ S' hP => by
    obtain ⟨⟨a1, a2, a3, a4, a5, a6, a7, a8, a9, a10, a11, a12, a13, a14, a15, a16, a17, a18, a19, rfl⟩, tb⟩ := hP
    have q := lw_1 c hx tb (some (.scr (scrD ns))) a2 a3 a4 a5 a6 a7 a8 a9 a10 a11 a12 a13 a14 a15 a16 a17 a18 a19
    exact ⟨_, asg_nm .., _, _, .inl (by simpa using q), trivial, ⟨some x, a2, a3, a4, a5, a6, a7, a8, a9, a10, a11, a12, a13, a14, a15, a16, a17, a18, a19, rfl⟩, isTab_app tb⟩
  obtain ⟨ρ2, S2, f2, hE2, t2⟩ := forI_keep (tg := .nm 2) (chk := fun _ => True) (b := lb_law_4 c) (fun ρ S' => E4 (some (.scr (scrD ns))) ρ ∧ isTab S' = some (c.tab, ("law.<locals>.<lambda>" : Str))) (iRow 0 2) ρ1 S1 ⟨hE1, t1⟩ fun x hx ρ S' hP => by
    obtain ⟨⟨a1, a2, a3, a4, a5, a6, a7, a8, a9, a10, a11, a12, a13, a14, a15, a16, a17, a18, a19, rfl⟩, tb⟩ := hP
    obtain ⟨k, hk, rfl⟩ := iRow_mem hx
    have e0 : (0 : Int) + (k : Nat) = (k : Nat) := by omega
    rw [e0]
    obtain ⟨ρ', S'', q1, q2, q3⟩ := lw_4 c (ns := ns) hk tb a1 a3 a4 a5 a6 a7 a8 a9 a10 a11 a12 a13 a14 a15 a16 a17 a18 a19
    exact ⟨_, asg_nm .., ρ', S'', .inl (by simpa using q1), trivial, q2, q3⟩
  refine ⟨S2, ?_⟩
  show runB 20 (den_law c) [.scr (scrD ns)] [.tab c.tab "law.<locals>.<lambda>"] = _
  refine run_rt ?_
  unfold den_law
  show sSeq _ _ [some (.scr (scrD ns)), none, none, none, none, none, none, none, none, none, none, none, none, none, none, none, none, none, none, none] [.tab c.tab "law.<locals>.<lambda>"] = _
  have i1 : iSeq (eLV (aC (eC (.int 2)) (aC (eC (.int 0)) (aC (eC (.int 41)) (aC (eC .non) (aC (eC (.bl true)) (aC (Z.e1 fNeg (eC (.int 3))) (aC (eC (.str "3")) (aC (eTup (aC (eC (.int 3)) aN)) aN))))))))) [some (.scr (scrD ns)), none, none, none, none, none, none, none, none, none, none, none, none, none, none, none, none, none, none, none] [.tab c.tab "law.<locals>.<lambda>"] = .ok (badV, fun _ => True) [.tab c.tab "law.<locals>.<lambda>"] := by
    refine iseq_lv ?_
    simp [aC, aN, eC, Z.e1, fNeg, eTup, badV]
  refine Eq.trans (seq_nx (a := sFor (.nm 1) _ (lb_law_1 c)) (Eq.trans (for_nx i1) f1)) ?_
  have i2 : iR1 (eC (.int 2)) ρ1 S1 = .ok (iRow 0 2, fun _ => True) S1 := iR1_nat (n := 2) rfl (by omega)
  refine Eq.trans (seq_nx (a := sFor (.nm 2) _ (lb_law_4 c)) (Eq.trans (for_nx i2) f2)) ?_
  simp [sRet, eC]
end Z.k64
open PySem PySem.W PyProof.Rows
open_top hd64 for PySem.Challenge.rw_wholestrokes_k64_whole_disks_that_are_cu
namespace Z.k64
open PySem L2 Z
structure Tx (P : Program) (w : World) (K : PySem.W.Frag) (mg : Str → Option Value) (base : Heap) : Prop where
  d_is_integer : ∃ fd, FunD K "is_integer" "is_integer" (defArgs s_is_integer) (defBody s_is_integer) (defScope s_is_integer) [] [] (He.ga K "is_integer") fd
  m_is_integer : mg "is_integer" = some (.ref (He.ga K "is_integer"))
  d_is_number : ∃ fd, FunD K "is_number" "is_number" (defArgs s_is_number) (defBody s_is_number) (defScope s_is_number) [V.non] [] (He.ga K "is_number") fd
  m_is_number : mg "is_number" = some (.ref (He.ga K "is_number"))
  d_is_ascending : ∃ fd, FunD K "is_ascending" "is_ascending" (defArgs s_is_ascending) (defBody s_is_ascending) (defScope s_is_ascending) [] [] (He.ga K "is_ascending") fd
  m_is_ascending : mg "is_ascending" = some (.ref (He.ga K "is_ascending"))
  d_is_lot : ∃ fd, FunD K "is_lot" "is_lot" (defArgs s_is_lot) (defBody s_is_lot) (defScope s_is_lot) [] [] (He.ga K "is_lot") fd
  m_is_lot : mg "is_lot" = some (.ref (He.ga K "is_lot"))
  d_CutDisk_mk : ∃ fd, FunD K "__init__" "CutDisk.__init__" (defArgs s_CutDisk_mk) (defBody s_CutDisk_mk) (defScope s_CutDisk_mk) [] [] (He.ma K (He.ga K "CutDisk") "__init__") fd
  d_CutDisk_size : ∃ fd, FunD K "size" "CutDisk.size" (defArgs s_CutDisk_size) (defBody s_CutDisk_size) (defScope s_CutDisk_size) [] [] (He.ma K (He.ga K "CutDisk") "size") fd
  mt_CutDisk_size : Meth K (He.ga K "CutDisk") "size" (He.ma K (He.ga K "CutDisk") "size")
  d_CutDisk_read : ∃ fd, FunD K "read" "CutDisk.read" (defArgs s_CutDisk_read) (defBody s_CutDisk_read) (defScope s_CutDisk_read) [] [] (He.ma K (He.ga K "CutDisk") "read") fd
  mt_CutDisk_read : Meth K (He.ga K "CutDisk") "read" (He.ma K (He.ga K "CutDisk") "read")
  d_CutDisk_put : ∃ fd, FunD K "put" "CutDisk.put" (defArgs s_CutDisk_put) (defBody s_CutDisk_put) (defScope s_CutDisk_put) [] [] (He.ma K (He.ga K "CutDisk") "put") fd
  mt_CutDisk_put : Meth K (He.ga K "CutDisk") "put" (He.ma K (He.ga K "CutDisk") "put")
  d_CutDisk_waits : ∃ fd, FunD K "waits" "CutDisk.waits" (defArgs s_CutDisk_waits) (defBody s_CutDisk_waits) (defScope s_CutDisk_waits) [] [] (He.ma K (He.ga K "CutDisk") "waits") fd
  mt_CutDisk_waits : Meth K (He.ga K "CutDisk") "waits" (He.ma K (He.ga K "CutDisk") "waits")
  d_CutDisk_flush : ∃ fd, FunD K "flush" "CutDisk.flush" (defArgs s_CutDisk_flush) (defBody s_CutDisk_flush) (defScope s_CutDisk_flush) [] [] (He.ma K (He.ga K "CutDisk") "flush") fd
  mt_CutDisk_flush : Meth K (He.ga K "CutDisk") "flush" (He.ma K (He.ga K "CutDisk") "flush")
  d_CutDisk_fall : ∃ fd, FunD K "fall" "CutDisk.fall" (defArgs s_CutDisk_fall) (defBody s_CutDisk_fall) (defScope s_CutDisk_fall) [] [] (He.ma K (He.ga K "CutDisk") "fall") fd
  mt_CutDisk_fall : Meth K (He.ga K "CutDisk") "fall" (He.ma K (He.ga K "CutDisk") "fall")
  d__law_take : ∃ fd, FunD K "_law_take" "_law_take" (defArgs s__law_take) (defBody s__law_take) (defScope s__law_take) [] [] (He.ga K "_law_take") fd
  m__law_take : mg "_law_take" = some (.ref (He.ga K "_law_take"))
  d__law_pick : ∃ fd, FunD K "_law_pick" "_law_pick" (defArgs s__law_pick) (defBody s__law_pick) (defScope s__law_pick) [] [] (He.ga K "_law_pick") fd
  m__law_pick : mg "_law_pick" = some (.ref (He.ga K "_law_pick"))
  d__law_box : ∃ fd, FunD K "_law_box" "_law_box" (defArgs s__law_box) (defBody s__law_box) (defScope s__law_box) [] [] (He.ga K "_law_box") fd
  m__law_box : mg "_law_box" = some (.ref (He.ga K "_law_box"))
  d__law_same : ∃ fd, FunD K "_law_same" "_law_same" (defArgs s__law_same) (defBody s__law_same) (defScope s__law_same) [] [] (He.ga K "_law_same") fd
  m__law_same : mg "_law_same" = some (.ref (He.ga K "_law_same"))
  d__law_cut : ∃ fd, FunD K "_law_cut" "_law_cut" (defArgs s__law_cut) (defBody s__law_cut) (defScope s__law_cut) [] [] (He.ga K "_law_cut") fd
  m__law_cut : mg "_law_cut" = some (.ref (He.ga K "_law_cut"))
  d__law_lots : ∃ fd, FunD K "_law_lots" "_law_lots" (defArgs s__law_lots) (defBody s__law_lots) (defScope s__law_lots) [] [] (He.ga K "_law_lots") fd
  m__law_lots : mg "_law_lots" = some (.ref (He.ga K "_law_lots"))
  d__law_refused : ∃ fd, FunD K "_law_refused" "_law_refused" (defArgs s__law_refused) (defBody s__law_refused) (defScope s__law_refused) [] [] (He.ga K "_law_refused") fd
  m__law_refused : mg "_law_refused" = some (.ref (He.ga K "_law_refused"))
  d__law_is_lot : ∃ fd, FunD K "_law_is_lot" "_law_is_lot" (defArgs s__law_is_lot) (defBody s__law_is_lot) (defScope s__law_is_lot) [] [] (He.ga K "_law_is_lot") fd
  m__law_is_lot : mg "_law_is_lot" = some (.ref (He.ga K "_law_is_lot"))
  d__law_like : ∃ fd, FunD K "_law_like" "_law_like" (defArgs s__law_like) (defBody s__law_like) (defScope s__law_like) [] [] (He.ga K "_law_like") fd
  m__law_like : mg "_law_like" = some (.ref (He.ga K "_law_like"))
  d_law : ∃ fd, FunD K "law" "law" (defArgs s_law) (defBody s_law) (defScope s_law) [] [] (He.ga K "law") fd
  m_law : mg "law" = some (.ref (He.ga K "law"))
  m_CutDisk : mg "CutDisk" = some (.ref (He.ga K "CutDisk"))
  m_StrokesError : mg "StrokesError" = some (.ref (He.ga K "StrokesError"))
  m_Refused : mg "Refused" = some (.ref (He.ga K "Refused"))
  cl_CutDisk : Cls K (He.ga K "CutDisk")
  mk_CutDisk : Mk K (He.ga K "CutDisk") (He.ma K (He.ga K "CutDisk") "__init__")
  b_abs : mg "abs" = none
  b_all : mg "all" = none
  b_any : mg "any" = none
  b_bool : mg "bool" = none
  b_enumerate : mg "enumerate" = none
  b_int : mg "int" = none
  b_isinstance : mg "isinstance" = none
  b_len : mg "len" = none
  b_list : mg "list" = none
  b_range : mg "range" = none
  b_set : mg "set" = none
  b_sorted : mg "sorted" = none
  b_str : mg "str" = none
  b_super : mg "super" = none
  b_tuple : mg "tuple" = none
  c_TORN : mg "TORN" = some (.ref (He.ga K "TORN"))
  ct_TORN : He.tupB K "TORN" [.str "torn"] = true
  c_MOST_SLOTS : ∃ t, mg "MOST_SLOTS" = some (.int 40 t)
  kit : Kit K (ad K).cs
  na_cells : NoAtt K (ad K).cs "cells"
  na_waiting : NoAtt K (ad K).cs "waiting"
  e_Refused : ErrC K P (He.ga K "Refused")
  xa : ∀ C ∈ (ad K).es, XfC K C ∧ PySem.W.findIn K (.ref C) "at" = some none
  mt_StrokesError : ∀ C b, (ad K).mt_StrokesError C = some b → PySem.W.exmOne K (.ref C) (.ref (ad K).StrokesError) = some b
  is_StrokesError : ∀ C b, (ad K).is_StrokesError C = some b → ExcC K C ∧ PySem.W.kitOne K (.ref C) (.ref (ad K).StrokesError) = some b
  mt_Refused : ∀ C b, (ad K).mt_Refused C = some b → PySem.W.exmOne K (.ref C) (.ref (ad K).Refused) = some b
  is_Refused : ∀ C b, (ad K).is_Refused C = some b → ExcC K C ∧ PySem.W.kitOne K (.ref C) (.ref (ad K).Refused) = some b
def dd0 : He.DefD := ⟨("", none), "", "", { posonlyargs := [], args := [], vararg := none, kwonlyargs := [], kw_defaults := [], kwarg := none, defaults := [] }, [], { kind := .function, names := [], isGenerator := false, isCoroutine := false, more := [] }, [], []⟩
def fa_k64 : List He.Fa := [.glo "is_integer", .glo "is_number", .glo "is_ascending", .glo "is_lot", .meth "CutDisk" "size", .meth "CutDisk" "read", .meth "CutDisk" "put", .meth "CutDisk" "waits", .meth "CutDisk" "flush", .meth "CutDisk" "fall", .glo "_law_take", .glo "_law_pick", .glo "_law_box", .glo "_law_same", .glo "_law_cut", .glo "_law_lots", .glo "_law_refused", .glo "_law_is_lot", .glo "_law_like", .glo "law", .glo "CutDisk", .glo "StrokesError", .glo "Refused", .cls "CutDisk", .mkr "CutDisk", .free "abs", .free "all", .free "any", .free "bool", .free "enumerate", .free "int", .free "isinstance", .free "len", .free "list", .free "range", .free "set", .free "sorted", .free "str", .free "super", .free "tuple", .glo "TORN", .int "MOST_SLOTS" 40, .noat "Refused" "at", .exm "Refused" "StrokesError" true, .exm "Refused" "Refused" true]
def fn_k64 : List He.DefD := [⟨("is_integer", none), "is_integer", "is_integer", defArgs s_is_integer, defBody s_is_integer, defScope s_is_integer, [], []⟩,
  ⟨("is_number", none), "is_number", "is_number", defArgs s_is_number, defBody s_is_number, defScope s_is_number, [.non], []⟩,
  ⟨("is_ascending", none), "is_ascending", "is_ascending", defArgs s_is_ascending, defBody s_is_ascending, defScope s_is_ascending, [], []⟩,
  ⟨("is_lot", none), "is_lot", "is_lot", defArgs s_is_lot, defBody s_is_lot, defScope s_is_lot, [], []⟩,
  ⟨("CutDisk", some "__init__"), "__init__", "CutDisk.__init__", defArgs s_CutDisk_mk, defBody s_CutDisk_mk, defScope s_CutDisk_mk, [], []⟩,
  ⟨("CutDisk", some "size"), "size", "CutDisk.size", defArgs s_CutDisk_size, defBody s_CutDisk_size, defScope s_CutDisk_size, [], []⟩,
  ⟨("CutDisk", some "read"), "read", "CutDisk.read", defArgs s_CutDisk_read, defBody s_CutDisk_read, defScope s_CutDisk_read, [], []⟩,
  ⟨("CutDisk", some "put"), "put", "CutDisk.put", defArgs s_CutDisk_put, defBody s_CutDisk_put, defScope s_CutDisk_put, [], []⟩,
  ⟨("CutDisk", some "waits"), "waits", "CutDisk.waits", defArgs s_CutDisk_waits, defBody s_CutDisk_waits, defScope s_CutDisk_waits, [], []⟩,
  ⟨("CutDisk", some "flush"), "flush", "CutDisk.flush", defArgs s_CutDisk_flush, defBody s_CutDisk_flush, defScope s_CutDisk_flush, [], []⟩,
  ⟨("CutDisk", some "fall"), "fall", "CutDisk.fall", defArgs s_CutDisk_fall, defBody s_CutDisk_fall, defScope s_CutDisk_fall, [], []⟩,
  ⟨("_law_take", none), "_law_take", "_law_take", defArgs s__law_take, defBody s__law_take, defScope s__law_take, [], []⟩,
  ⟨("_law_pick", none), "_law_pick", "_law_pick", defArgs s__law_pick, defBody s__law_pick, defScope s__law_pick, [], []⟩,
  ⟨("_law_box", none), "_law_box", "_law_box", defArgs s__law_box, defBody s__law_box, defScope s__law_box, [], []⟩,
  ⟨("_law_same", none), "_law_same", "_law_same", defArgs s__law_same, defBody s__law_same, defScope s__law_same, [], []⟩,
  ⟨("_law_cut", none), "_law_cut", "_law_cut", defArgs s__law_cut, defBody s__law_cut, defScope s__law_cut, [], []⟩,
  ⟨("_law_lots", none), "_law_lots", "_law_lots", defArgs s__law_lots, defBody s__law_lots, defScope s__law_lots, [], []⟩,
  ⟨("_law_refused", none), "_law_refused", "_law_refused", defArgs s__law_refused, defBody s__law_refused, defScope s__law_refused, [], []⟩,
  ⟨("_law_is_lot", none), "_law_is_lot", "_law_is_lot", defArgs s__law_is_lot, defBody s__law_is_lot, defScope s__law_is_lot, [], []⟩,
  ⟨("_law_like", none), "_law_like", "_law_like", defArgs s__law_like, defBody s__law_like, defScope s__law_like, [], []⟩,
  ⟨("law", none), "law", "law", defArgs s_law, defBody s_law, defScope s_law, [], []⟩]
def ex_k64 (P : Program) (K : PySem.W.Frag) : List Bool := [He.tupB K "TORN" [.str "torn"], kitB K ["CutDisk"], noAttB K ["CutDisk"] "cells", noAttB K ["CutDisk"] "waiting", errB K P "Refused", He_xfB K "Refused", kitOneB K "Refused" "StrokesError" true, excCB K "Refused", kitOneB K "Refused" "Refused" true]
def hE_Refused (K : PySem.W.Frag) : Prop := He.fnW K ("Refused", some "__init__") = some ((("__init__" : Str), ("Refused.__init__" : Str), eiArgs ⟨6, 17, 6, 21⟩ ⟨6, 23, 6, 25⟩, FuncBody.stmts (eiBody ⟨7, 8, 7, 13⟩ ⟨7, 8, 7, 15⟩ ⟨7, 8, 7, 24⟩ ⟨7, 25, 7, 27⟩ ⟨7, 8, 7, 28⟩ ⟨7, 8, 7, 28⟩ ⟨8, 8, 8, 12⟩ ⟨8, 8, 8, 15⟩ ⟨8, 18, 8, 20⟩ ⟨8, 8, 8, 20⟩), eiScope, mainGlobals, [(("__class__" : Str), cel K "Refused")], builtinsNs) : Str × Str × Arguments × FuncBody × Scope × Addr × List (Str × Addr) × Addr)
theorem tx_of {P : Program} {w : World} {K : PySem.W.Frag} {mg : Str → Option Value} {base h : Heap} (X : K.In h) (G : h.Ns mainGlobals mg) (c : He.SaysD fa_k64 fn_k64 K) (e : (ex_k64 P K).all id = true) (h_Refused : hE_Refused K) : Tx P w K mg base where
  d_is_integer := c.def_ 0 (d := fn_k64.getD 0 dd0) rfl
  m_is_integer := He.glo_ok X G (c.fact 0 (f := .glo "is_integer") rfl)
  d_is_number := c.def_ 1 (d := fn_k64.getD 1 dd0) rfl
  m_is_number := He.glo_ok X G (c.fact 1 (f := .glo "is_number") rfl)
  d_is_ascending := c.def_ 2 (d := fn_k64.getD 2 dd0) rfl
  m_is_ascending := He.glo_ok X G (c.fact 2 (f := .glo "is_ascending") rfl)
  d_is_lot := c.def_ 3 (d := fn_k64.getD 3 dd0) rfl
  m_is_lot := He.glo_ok X G (c.fact 3 (f := .glo "is_lot") rfl)
  d_CutDisk_mk := c.def_ 4 (d := fn_k64.getD 4 dd0) rfl
  d_CutDisk_size := c.def_ 5 (d := fn_k64.getD 5 dd0) rfl
  mt_CutDisk_size := He.meth_ok (c.fact 4 (f := .meth "CutDisk" "size") rfl)
  d_CutDisk_read := c.def_ 6 (d := fn_k64.getD 6 dd0) rfl
  mt_CutDisk_read := He.meth_ok (c.fact 5 (f := .meth "CutDisk" "read") rfl)
  d_CutDisk_put := c.def_ 7 (d := fn_k64.getD 7 dd0) rfl
  mt_CutDisk_put := He.meth_ok (c.fact 6 (f := .meth "CutDisk" "put") rfl)
  d_CutDisk_waits := c.def_ 8 (d := fn_k64.getD 8 dd0) rfl
  mt_CutDisk_waits := He.meth_ok (c.fact 7 (f := .meth "CutDisk" "waits") rfl)
  d_CutDisk_flush := c.def_ 9 (d := fn_k64.getD 9 dd0) rfl
  mt_CutDisk_flush := He.meth_ok (c.fact 8 (f := .meth "CutDisk" "flush") rfl)
  d_CutDisk_fall := c.def_ 10 (d := fn_k64.getD 10 dd0) rfl
  mt_CutDisk_fall := He.meth_ok (c.fact 9 (f := .meth "CutDisk" "fall") rfl)
  d__law_take := c.def_ 11 (d := fn_k64.getD 11 dd0) rfl
  m__law_take := He.glo_ok X G (c.fact 10 (f := .glo "_law_take") rfl)
  d__law_pick := c.def_ 12 (d := fn_k64.getD 12 dd0) rfl
  m__law_pick := He.glo_ok X G (c.fact 11 (f := .glo "_law_pick") rfl)
  d__law_box := c.def_ 13 (d := fn_k64.getD 13 dd0) rfl
  m__law_box := He.glo_ok X G (c.fact 12 (f := .glo "_law_box") rfl)
  d__law_same := c.def_ 14 (d := fn_k64.getD 14 dd0) rfl
  m__law_same := He.glo_ok X G (c.fact 13 (f := .glo "_law_same") rfl)
  d__law_cut := c.def_ 15 (d := fn_k64.getD 15 dd0) rfl
  m__law_cut := He.glo_ok X G (c.fact 14 (f := .glo "_law_cut") rfl)
  d__law_lots := c.def_ 16 (d := fn_k64.getD 16 dd0) rfl
  m__law_lots := He.glo_ok X G (c.fact 15 (f := .glo "_law_lots") rfl)
  d__law_refused := c.def_ 17 (d := fn_k64.getD 17 dd0) rfl
  m__law_refused := He.glo_ok X G (c.fact 16 (f := .glo "_law_refused") rfl)
  d__law_is_lot := c.def_ 18 (d := fn_k64.getD 18 dd0) rfl
  m__law_is_lot := He.glo_ok X G (c.fact 17 (f := .glo "_law_is_lot") rfl)
  d__law_like := c.def_ 19 (d := fn_k64.getD 19 dd0) rfl
  m__law_like := He.glo_ok X G (c.fact 18 (f := .glo "_law_like") rfl)
  d_law := c.def_ 20 (d := fn_k64.getD 20 dd0) rfl
  m_law := He.glo_ok X G (c.fact 19 (f := .glo "law") rfl)
  m_CutDisk := He.glo_ok X G (c.fact 20 (f := .glo "CutDisk") rfl)
  m_StrokesError := He.glo_ok X G (c.fact 21 (f := .glo "StrokesError") rfl)
  m_Refused := He.glo_ok X G (c.fact 22 (f := .glo "Refused") rfl)
  cl_CutDisk := He.cls_ok (c.fact 23 (f := .cls "CutDisk") rfl)
  mk_CutDisk := He.mkr_ok (c.fact 24 (f := .mkr "CutDisk") rfl)
  b_abs := He.free_ok X G (c.fact 25 (f := .free "abs") rfl)
  b_all := He.free_ok X G (c.fact 26 (f := .free "all") rfl)
  b_any := He.free_ok X G (c.fact 27 (f := .free "any") rfl)
  b_bool := He.free_ok X G (c.fact 28 (f := .free "bool") rfl)
  b_enumerate := He.free_ok X G (c.fact 29 (f := .free "enumerate") rfl)
  b_int := He.free_ok X G (c.fact 30 (f := .free "int") rfl)
  b_isinstance := He.free_ok X G (c.fact 31 (f := .free "isinstance") rfl)
  b_len := He.free_ok X G (c.fact 32 (f := .free "len") rfl)
  b_list := He.free_ok X G (c.fact 33 (f := .free "list") rfl)
  b_range := He.free_ok X G (c.fact 34 (f := .free "range") rfl)
  b_set := He.free_ok X G (c.fact 35 (f := .free "set") rfl)
  b_sorted := He.free_ok X G (c.fact 36 (f := .free "sorted") rfl)
  b_str := He.free_ok X G (c.fact 37 (f := .free "str") rfl)
  b_super := He.free_ok X G (c.fact 38 (f := .free "super") rfl)
  b_tuple := He.free_ok X G (c.fact 39 (f := .free "tuple") rfl)
  c_TORN := He.glo_ok X G (c.fact 40 (f := .glo "TORN") rfl)
  ct_TORN := exB e 0 (x := He.tupB K "TORN" [.str "torn"]) rfl
  c_MOST_SLOTS := He.int_ok X G (c.fact 41 (f := .int "MOST_SLOTS" 40) rfl)
  kit := kitB_ok (exB e 1 (x := kitB K ["CutDisk"]) rfl)
  na_cells := noAttB_ok (exB e 2 (x := noAttB K ["CutDisk"] "cells") rfl)
  na_waiting := noAttB_ok (exB e 3 (x := noAttB K ["CutDisk"] "waiting") rfl)
  e_Refused := errB_ok (exB e 4 (x := errB K P "Refused") rfl) (fun env => ⟨_, rfl⟩) ⟨_, h_Refused⟩
  xa := fun C hC => by
    simp only [List.mem_cons, List.not_mem_nil, or_false] at hC
    · subst hC; exact ⟨xfB_ok (exB e 5 (x := He_xfB K "Refused") rfl), He.noat_ok (c.fact 42 (f := .noat "Refused" "at") rfl)⟩
  mt_StrokesError := fun C b h => by
    unfold Ad.mt_StrokesError at h
    by_cases h_Refused : C = (ad K).Refused
    · rw [if_pos h_Refused] at h; cases h; subst h_Refused; exact He.exm_ok (c.fact 43 (f := .exm "Refused" "StrokesError" true) rfl)
    rw [if_neg h_Refused] at h
    cases h
  is_StrokesError := fun C b h => by
    unfold Ad.is_StrokesError at h
    by_cases h_Refused : C = (ad K).Refused
    · rw [if_pos h_Refused] at h; cases h; subst h_Refused; exact ⟨excCB_ok (exB e 7 (x := excCB K "Refused") rfl), kitOneB_ok (exB e 6 (x := kitOneB K "Refused" "StrokesError" true) rfl)⟩
    rw [if_neg h_Refused] at h
    cases h
  mt_Refused := fun C b h => by
    unfold Ad.mt_Refused at h
    by_cases h_Refused : C = (ad K).Refused
    · rw [if_pos h_Refused] at h; cases h; subst h_Refused; exact He.exm_ok (c.fact 44 (f := .exm "Refused" "Refused" true) rfl)
    rw [if_neg h_Refused] at h
    cases h
  is_Refused := fun C b h => by
    unfold Ad.is_Refused at h
    by_cases h_Refused : C = (ad K).Refused
    · rw [if_pos h_Refused] at h; cases h; subst h_Refused; exact ⟨excCB_ok (exB e 7 (x := excCB K "Refused") rfl), kitOneB_ok (exB e 8 (x := kitOneB K "Refused" "Refused" true) rfl)⟩
    rw [if_neg h_Refused] at h
    cases h
theorem rd_TORN {P : Program} {w : World} {K : PySem.W.Frag} {mg : Str → Option Value} {base : Heap} (T : Tx P w K mg base) : ∀ m B H, RD K m B H c_TORN (V.ref (He.ga K "TORN")) := fun m B H => by
  have k := ktB T.ct_TORN
  unfold c_TORN RD
  exact ⟨_, _, rfl, .inr k, (RDs.cons (RDst _) RDs.nil)⟩
theorem sc_is_integer : FnScope ["value"] ["value"] (defScope s_is_integer) := ⟨rfl, rfl, rfl, by decide +kernel, rfl, by decide +kernel, by decide +kernel⟩
theorem fn_is_integer {P : Program} {w : World} {K : PySem.W.Frag} {mg : Str → Option Value} {base : Heap} (T : Tx P w K mg base) {fd : FuncData} (fdd : FunD K "is_integer" "is_integer" (defArgs s_is_integer) (defBody s_is_integer) (defScope s_is_integer) [] [] (He.ga K "is_integer") fd) : FnOk P w K mg base (L2.CX P w) 1 (He.ga K "is_integer") fd ["value"] (spI K 1 (F_is_integer (ad K))) :=
  zfn (k := 0) (den := den_is_integer (ad K)) fdd sc_is_integer rfl (fun cdv A outer s H E G => (zb_one (zs_ret (ze_and (ze_isi T.kit T.b_isinstance (za_cons (ze_var 0) (za_cons (ze_ty T.b_int) za_nil))) (ze_one (ze_not (ze_isi T.kit T.b_isinstance (za_cons (ze_var 0) (za_cons (ze_ty T.b_bool) za_nil))))))))) (fun ds S _ _ _ => Ref.same rfl)
theorem ok_is_integer {P : Program} {w : World} {K : PySem.W.Frag} {mg : Str → Option Value} {base : Heap} (T : Tx P w K mg base) : Df P w K mg base "is_integer" 1 1 (F_is_integer (ad K)) dl_is_integer := by
  obtain ⟨fd, fdd⟩ := T.d_is_integer
  exact ⟨_, fd, _, fn_is_integer T fdd, T.m_is_integer, fdd.kp, (binds_none fdd fun _ _ _ _ _ _ us hl => match us, hl with | [_], _ => rfl)⟩
theorem sc_is_number : FnScope ["value", "most"] ["value", "most"] (defScope s_is_number) := ⟨rfl, rfl, rfl, by decide +kernel, rfl, by decide +kernel, by decide +kernel⟩
theorem bd_is_number {K : PySem.W.Frag} {f : Addr} {fd : FuncData} (F : FunD K "is_number" "is_number" (defArgs s_is_number) (defBody s_is_number) (defScope s_is_number) [V.non] [] f fd) : ∀ j, j ≤ dl_is_number.length → ∃ ds dvs, Binds K fd ["value", "most"] ds ∧ Vals dvs ds ∧ ∀ m B H, RDs K m B H (dl_is_number.drop j) dvs
  | 0, _ => by
    obtain ⟨ds, h1, h2⟩ := FunD.binds1 (ps := ["value", "most"]) F 1 0 (by decide) rfl fun _ _ _ _ _ _ _ us its hu hi => match us, its, hu, hi with | [_], [_], _, _ => ⟨_, rfl, rfl⟩
    exact ⟨ds, _, h2, h1, fun _ _ _ => (RDs.cons (RDn) RDs.nil)⟩
  | 1, _ => by
    obtain ⟨ds, h1, h2⟩ := FunD.binds1 (ps := ["value", "most"]) F 2 1 (by decide) rfl fun _ _ _ _ _ _ _ us its hu hi => match us, its, hu, hi with | [_, _], [_], _, _ => ⟨_, rfl, rfl⟩
    exact ⟨ds, _, h2, h1, fun _ _ _ => RDs.nil⟩
  | j + 2, h => absurd h (by show ¬ j + 2 ≤ 1; omega)
theorem fn_is_number {P : Program} {w : World} {K : PySem.W.Frag} {mg : Str → Option Value} {base : Heap} (T : Tx P w K mg base) {fd : FuncData} (fdd : FunD K "is_number" "is_number" (defArgs s_is_number) (defBody s_is_number) (defScope s_is_number) [V.non] [] (He.ga K "is_number") fd) : FnOk P w K mg base (L2.CX P w) 2 (He.ga K "is_number") fd ["value", "most"] (spI K 2 (F_is_number (ad K))) :=
  zfn (k := 1) (den := den_is_number (ad K)) fdd sc_is_number rfl (fun cdv A outer s H E G => (zb_one (zs_ret (ze_and (zd_call (ok_is_integer T) 0 (G.room.mono (by decide)) (za_cons (ze_var 0) za_nil)) (ze_and (ze_ge (ze_var 0) ze_int) (ze_one (ze_or (ze_isN (ze_var 1)) (ze_one (ze_le (ze_var 0) (ze_var 1)))))))))) (fun ds S _ _ _ => Ref.same rfl)
theorem ok_is_number {P : Program} {w : World} {K : PySem.W.Frag} {mg : Str → Option Value} {base : Heap} (T : Tx P w K mg base) : Df P w K mg base "is_number" 2 2 (F_is_number (ad K)) dl_is_number := by
  obtain ⟨fd, fdd⟩ := T.d_is_number
  exact ⟨_, fd, _, fn_is_number T fdd, T.m_is_number, fdd.kp, bd_is_number fdd⟩
theorem sc_is_ascending : FnScope ["row", "at"] ["row"] (defScope s_is_ascending) := ⟨rfl, rfl, rfl, by decide +kernel, rfl, by decide +kernel, by decide +kernel⟩
theorem fn_is_ascending {P : Program} {w : World} {K : PySem.W.Frag} {mg : Str → Option Value} {base : Heap} (T : Tx P w K mg base) {fd : FuncData} (fdd : FunD K "is_ascending" "is_ascending" (defArgs s_is_ascending) (defBody s_is_ascending) (defScope s_is_ascending) [] [] (He.ga K "is_ascending") fd) : FnOk P w K mg base (L2.CX P w) 1 (He.ga K "is_ascending") fd ["row"] (spI K 1 (F_is_ascending (ad K))) :=
  zfn (k := 0) (den := den_is_ascending (ad K)) fdd sc_is_ascending rfl (fun cdv A outer s H E G => (zb_one (zs_ret (ze_all rfl T.b_all (za_cons (ze_lv (zl_lc (own := [("at", 1)]) rfl sc_is_ascending.nd (zi_r2 T.b_range (za_cons ze_int (za_cons (ze_len T.b_len (za_cons (ze_var 0) za_nil)) za_nil))) (blkOk_by (own := [("at", 1)]) (by kernel_rfl)) (by decide) (fun _ _ _ _ _ => (zg_nm sc_is_ascending.nd)) (fun _ _ _ _ _ => zts_nil) (fun _ _ _ _ _ => (ze_lt (ze_sub_ix (ze_var 0) (ze_sub (ze_var 1) ze_int)) (ze_sub_ix (ze_var 0) (ze_var 1)))))) za_nil))))) (fun ds S _ _ _ => Ref.same rfl)
theorem ok_is_ascending {P : Program} {w : World} {K : PySem.W.Frag} {mg : Str → Option Value} {base : Heap} (T : Tx P w K mg base) : Df P w K mg base "is_ascending" 1 1 (F_is_ascending (ad K)) dl_is_ascending := by
  obtain ⟨fd, fdd⟩ := T.d_is_ascending
  exact ⟨_, fd, _, fn_is_ascending T fdd, T.m_is_ascending, fdd.kp, (binds_none fdd fun _ _ _ _ _ _ us hl => match us, hl with | [_], _ => rfl)⟩
theorem sc_is_lot : FnScope ["value", "one"] ["value"] (defScope s_is_lot) := ⟨rfl, rfl, rfl, by decide +kernel, rfl, by decide +kernel, by decide +kernel⟩
theorem fn_is_lot {P : Program} {w : World} {K : PySem.W.Frag} {mg : Str → Option Value} {base : Heap} (T : Tx P w K mg base) {fd : FuncData} (fdd : FunD K "is_lot" "is_lot" (defArgs s_is_lot) (defBody s_is_lot) (defScope s_is_lot) [] [] (He.ga K "is_lot") fd) : FnOk P w K mg base (L2.CX P w) 3 (He.ga K "is_lot") fd ["value"] (spI K 1 (F_is_lot (ad K))) :=
  zfn (k := 2) (den := den_is_lot (ad K)) fdd sc_is_lot rfl (fun cdv A outer s H E G => (zb_one (zs_ret (ze_and (ze_isi T.kit T.b_isinstance (za_cons (ze_var 0) (za_cons (ze_ty T.b_tuple) za_nil))) (ze_and (ze_all rfl T.b_all (za_cons (ze_lv (zl_lc (own := [("one", 1)]) rfl sc_is_lot.nd (zi_seq (ze_var 0)) (blkOk_by (own := [("one", 1)]) (by kernel_rfl)) (by decide) (fun _ _ _ _ _ => (zg_nm sc_is_lot.nd)) (fun _ _ _ _ _ => zts_nil) (fun _ _ _ _ _ => (zd_call (ok_is_number T) 0 (G.room.mono (by decide)) (za_cons (ze_var 1) za_nil))))) za_nil)) (ze_one (zd_call (ok_is_ascending T) 0 (G.room.mono (by decide)) (za_cons (ze_var 0) za_nil)))))))) (fun ds S _ _ _ => Ref.same rfl)
theorem ok_is_lot {P : Program} {w : World} {K : PySem.W.Frag} {mg : Str → Option Value} {base : Heap} (T : Tx P w K mg base) : Df P w K mg base "is_lot" 3 1 (F_is_lot (ad K)) dl_is_lot := by
  obtain ⟨fd, fdd⟩ := T.d_is_lot
  exact ⟨_, fd, _, fn_is_lot T fdd, T.m_is_lot, fdd.kp, (binds_none fdd fun _ _ _ _ _ _ us hl => match us, hl with | [_], _ => rfl)⟩
theorem sc_CutDisk_mk : FnScope ["self", "slots"] ["self", "slots"] (defScope s_CutDisk_mk) := ⟨rfl, rfl, rfl, by decide +kernel, rfl, by decide +kernel, by decide +kernel⟩
theorem fn_CutDisk_mk {P : Program} {w : World} {K : PySem.W.Frag} {mg : Str → Option Value} {base : Heap} (T : Tx P w K mg base) {fd : FuncData} (fdd : FunD K "__init__" "CutDisk.__init__" (defArgs s_CutDisk_mk) (defBody s_CutDisk_mk) (defScope s_CutDisk_mk) [] [] (He.ma K (He.ga K "CutDisk") "__init__") fd) : FnOk P w K mg base (L2.CX P w) 3 (He.ma K (He.ga K "CutDisk") "__init__") fd ["self", "slots"] (spI K 2 (F_CutDisk_mk (ad K))) :=
  zfn (k := 2) (den := den_CutDisk_mk (ad K)) fdd sc_CutDisk_mk rfl (fun cdv A outer s H E G => (zb_cons (zs_if (zt_w (zw_or (zt_not (zt_val (zd_call (ok_is_number T) 1 (G.room.mono (by decide)) (za_cons (ze_var 1) (za_cons (ze_glob (v := V.int 40) (T.c_MOST_SLOTS).choose_spec ⟨_, rfl⟩ fun _ _ _ => RDi _) za_nil))))) (zw_or1 (zt_lt (ze_var 1) ze_int)))) (zb_one (zs_raise rfl T.e_Refused T.m_Refused T.b_super G.room ze_str)) zb_nil)
  (zb_cons (zs_attr T.na_cells (ze_var 0) (ze_ln (zl_rep (ze_lv (zl_lst (za_cons ze_non za_nil) (lenA_cons lenA_nil))) (ze_var 1))))
  (zb_one (zs_attr T.na_waiting (ze_var 0) (ze_ln (zl_lst za_nil lenA_nil))))))) (fun ds S _ _ _ => Ref.same rfl)
theorem ok_CutDisk_mk {P : Program} {w : World} {K : PySem.W.Frag} {mg : Str → Option Value} {base : Heap} (T : Tx P w K mg base) : Dk P w K mg base "CutDisk" (ad K).CutDisk 3 2 (F_CutDisk_mk (ad K)) dl_CutDisk_mk := by
  obtain ⟨fd, fdd⟩ := T.d_CutDisk_mk
  exact ⟨⟨_, T.mk_CutDisk, fd, _, fn_CutDisk_mk T fdd, (binds_none fdd fun _ _ _ _ _ _ us hl => match us, hl with | [_, _], _ => rfl)⟩, T.m_CutDisk⟩
theorem sc_CutDisk_size : FnScope ["self"] ["self"] (defScope s_CutDisk_size) := ⟨rfl, rfl, rfl, by decide +kernel, rfl, by decide +kernel, by decide +kernel⟩
theorem fn_CutDisk_size {P : Program} {w : World} {K : PySem.W.Frag} {mg : Str → Option Value} {base : Heap} (T : Tx P w K mg base) {fd : FuncData} (fdd : FunD K "size" "CutDisk.size" (defArgs s_CutDisk_size) (defBody s_CutDisk_size) (defScope s_CutDisk_size) [] [] (He.ma K (He.ga K "CutDisk") "size") fd) : FnOk P w K mg base (L2.CX P w) 1 (He.ma K (He.ga K "CutDisk") "size") fd ["self"] (spI K 1 (F_CutDisk_size (ad K))) :=
  zfn (k := 0) (den := den_CutDisk_size (ad K)) fdd sc_CutDisk_size rfl (fun cdv A outer s H E G => (zb_one (zs_ret (ze_len T.b_len (za_cons (ze_fld T.na_cells (ze_var 0)) za_nil))))) (fun ds S _ _ _ => Ref.same rfl)
theorem ok_CutDisk_size {P : Program} {w : World} {K : PySem.W.Frag} {mg : Str → Option Value} {base : Heap} (T : Tx P w K mg base) : Dm P w K mg base (ad K).CutDisk "size" 1 1 (F_CutDisk_size (ad K)) dl_CutDisk_size := by
  obtain ⟨fd, fdd⟩ := T.d_CutDisk_size
  exact ⟨T.cl_CutDisk, _, fd, _, T.mt_CutDisk_size, fn_CutDisk_size T fdd, (binds_none fdd fun _ _ _ _ _ _ us hl => match us, hl with | [_], _ => rfl)⟩
theorem sc_CutDisk_read : FnScope ["self", "slot"] ["self", "slot"] (defScope s_CutDisk_read) := ⟨rfl, rfl, rfl, by decide +kernel, rfl, by decide +kernel, by decide +kernel⟩
theorem fn_CutDisk_read {P : Program} {w : World} {K : PySem.W.Frag} {mg : Str → Option Value} {base : Heap} (T : Tx P w K mg base) {fd : FuncData} (fdd : FunD K "read" "CutDisk.read" (defArgs s_CutDisk_read) (defBody s_CutDisk_read) (defScope s_CutDisk_read) [] [] (He.ma K (He.ga K "CutDisk") "read") fd) : FnOk P w K mg base (L2.CX P w) 1 (He.ma K (He.ga K "CutDisk") "read") fd ["self", "slot"] (spI K 2 (F_CutDisk_read (ad K))) :=
  zfn (k := 0) (den := den_CutDisk_read (ad K)) fdd sc_CutDisk_read rfl (fun cdv A outer s H E G => (zb_one (zs_ret (ze_sub_ix (ze_fld T.na_cells (ze_var 0)) (ze_var 1))))) (fun ds S _ _ _ => Ref.same rfl)
theorem ok_CutDisk_read {P : Program} {w : World} {K : PySem.W.Frag} {mg : Str → Option Value} {base : Heap} (T : Tx P w K mg base) : Dm P w K mg base (ad K).CutDisk "read" 1 2 (F_CutDisk_read (ad K)) dl_CutDisk_read := by
  obtain ⟨fd, fdd⟩ := T.d_CutDisk_read
  exact ⟨T.cl_CutDisk, _, fd, _, T.mt_CutDisk_read, fn_CutDisk_read T fdd, (binds_none fdd fun _ _ _ _ _ _ us hl => match us, hl with | [_, _], _ => rfl)⟩
theorem sc_CutDisk_put : FnScope ["self", "slot", "row"] ["self", "slot", "row"] (defScope s_CutDisk_put) := ⟨rfl, rfl, rfl, by decide +kernel, rfl, by decide +kernel, by decide +kernel⟩
theorem fn_CutDisk_put {P : Program} {w : World} {K : PySem.W.Frag} {mg : Str → Option Value} {base : Heap} (T : Tx P w K mg base) {fd : FuncData} (fdd : FunD K "put" "CutDisk.put" (defArgs s_CutDisk_put) (defBody s_CutDisk_put) (defScope s_CutDisk_put) [] [] (He.ma K (He.ga K "CutDisk") "put") fd) : FnOk P w K mg base (L2.CX P w) 1 (He.ma K (He.ga K "CutDisk") "put") fd ["self", "slot", "row"] (spI K 3 (F_CutDisk_put (ad K))) :=
  zfn (k := 0) (den := den_CutDisk_put (ad K)) fdd sc_CutDisk_put rfl (fun cdv A outer s H E G => (zb_one (zs_drop (ze_app (ze_fld T.na_waiting (ze_var 0)) (za_cons (ze_tup (za_cons (ze_var 1) (za_cons (ze_var 2) za_nil)) (lenA_cons (lenA_cons lenA_nil))) za_nil))))) (fun ds S _ _ _ => Ref.same rfl)
theorem ok_CutDisk_put {P : Program} {w : World} {K : PySem.W.Frag} {mg : Str → Option Value} {base : Heap} (T : Tx P w K mg base) : Dm P w K mg base (ad K).CutDisk "put" 1 3 (F_CutDisk_put (ad K)) dl_CutDisk_put := by
  obtain ⟨fd, fdd⟩ := T.d_CutDisk_put
  exact ⟨T.cl_CutDisk, _, fd, _, T.mt_CutDisk_put, fn_CutDisk_put T fdd, (binds_none fdd fun _ _ _ _ _ _ us hl => match us, hl with | [_, _, _], _ => rfl)⟩
theorem sc_CutDisk_waits : FnScope ["self"] ["self"] (defScope s_CutDisk_waits) := ⟨rfl, rfl, rfl, by decide +kernel, rfl, by decide +kernel, by decide +kernel⟩
theorem fn_CutDisk_waits {P : Program} {w : World} {K : PySem.W.Frag} {mg : Str → Option Value} {base : Heap} (T : Tx P w K mg base) {fd : FuncData} (fdd : FunD K "waits" "CutDisk.waits" (defArgs s_CutDisk_waits) (defBody s_CutDisk_waits) (defScope s_CutDisk_waits) [] [] (He.ma K (He.ga K "CutDisk") "waits") fd) : FnOk P w K mg base (L2.CX P w) 1 (He.ma K (He.ga K "CutDisk") "waits") fd ["self"] (spI K 1 (F_CutDisk_waits (ad K))) :=
  zfn (k := 0) (den := den_CutDisk_waits (ad K)) fdd sc_CutDisk_waits rfl (fun cdv A outer s H E G => (zb_one (zs_ret (ze_len T.b_len (za_cons (ze_fld T.na_waiting (ze_var 0)) za_nil))))) (fun ds S _ _ _ => Ref.same rfl)
theorem ok_CutDisk_waits {P : Program} {w : World} {K : PySem.W.Frag} {mg : Str → Option Value} {base : Heap} (T : Tx P w K mg base) : Dm P w K mg base (ad K).CutDisk "waits" 1 1 (F_CutDisk_waits (ad K)) dl_CutDisk_waits := by
  obtain ⟨fd, fdd⟩ := T.d_CutDisk_waits
  exact ⟨T.cl_CutDisk, _, fd, _, T.mt_CutDisk_waits, fn_CutDisk_waits T fdd, (binds_none fdd fun _ _ _ _ _ _ us hl => match us, hl with | [_], _ => rfl)⟩
theorem sc_CutDisk_flush : FnScope ["self", "slot", "row"] ["self"] (defScope s_CutDisk_flush) := ⟨rfl, rfl, rfl, by decide +kernel, rfl, by decide +kernel, by decide +kernel⟩
theorem fn_CutDisk_flush {P : Program} {w : World} {K : PySem.W.Frag} {mg : Str → Option Value} {base : Heap} (T : Tx P w K mg base) {fd : FuncData} (fdd : FunD K "flush" "CutDisk.flush" (defArgs s_CutDisk_flush) (defBody s_CutDisk_flush) (defScope s_CutDisk_flush) [] [] (He.ma K (He.ga K "CutDisk") "flush") fd) : FnOk P w K mg base (L2.CX P w) 1 (He.ma K (He.ga K "CutDisk") "flush") fd ["self"] (spI K 1 (F_CutDisk_flush (ad K))) :=
  zfn (k := 0) (den := den_CutDisk_flush (ad K)) fdd sc_CutDisk_flush rfl (fun cdv A outer s H E G => (zb_cons (zs_for G.pass rfl (zi_seq (ze_fld T.na_waiting (ze_var 0))) (zg_tp rfl (zgs_cons (zg_nm sc_CutDisk_flush.nd) (zgs_cons (zg_nm sc_CutDisk_flush.nd) zgs_nil))) (zb_one (zs_put (ze_var 2) (ze_fld T.na_cells (ze_var 0)) (ze_var 1))))
  (zb_one (zs_attr T.na_waiting (ze_var 0) (ze_ln (zl_lst za_nil lenA_nil)))))) (fun ds S _ _ _ => Ref.same rfl)
theorem ok_CutDisk_flush {P : Program} {w : World} {K : PySem.W.Frag} {mg : Str → Option Value} {base : Heap} (T : Tx P w K mg base) : Dm P w K mg base (ad K).CutDisk "flush" 1 1 (F_CutDisk_flush (ad K)) dl_CutDisk_flush := by
  obtain ⟨fd, fdd⟩ := T.d_CutDisk_flush
  exact ⟨T.cl_CutDisk, _, fd, _, T.mt_CutDisk_flush, fn_CutDisk_flush T fdd, (binds_none fdd fun _ _ _ _ _ _ us hl => match us, hl with | [_], _ => rfl)⟩
theorem sc_CutDisk_fall : FnScope ["self", "kept", "torn", "lot", "place", "slot", "row"] ["self", "kept", "torn"] (defScope s_CutDisk_fall) := ⟨rfl, rfl, rfl, by decide +kernel, rfl, by decide +kernel, by decide +kernel⟩
theorem fn_CutDisk_fall {P : Program} {w : World} {K : PySem.W.Frag} {mg : Str → Option Value} {base : Heap} (T : Tx P w K mg base) {fd : FuncData} (fdd : FunD K "fall" "CutDisk.fall" (defArgs s_CutDisk_fall) (defBody s_CutDisk_fall) (defScope s_CutDisk_fall) [] [] (He.ma K (He.ga K "CutDisk") "fall") fd) : FnOk P w K mg base (L2.CX P w) 4 (He.ma K (He.ga K "CutDisk") "fall") fd ["self", "kept", "torn"] (spI K 3 (F_CutDisk_fall (ad K))) :=
  zfn (k := 3) (den := den_CutDisk_fall (ad K)) fdd sc_CutDisk_fall rfl (fun cdv A outer s H E G => (zb_cons (zs_for G.pass rfl (zi_seq (ze_tup (za_cons (ze_var 1) (za_cons (ze_var 2) za_nil)) (lenA_cons (lenA_cons lenA_nil)))) (zg_nm sc_CutDisk_fall.nd) (zb_one (zs_if (zt_w (zw_or (zt_not (zt_val (zd_call (ok_is_lot T) 0 (G.room.mono (by decide)) (za_cons (ze_var 3) za_nil)))) (zw_or1 (zt_not (zt_val (ze_all rfl T.b_all (za_cons (ze_lv (zl_lc (own := [("place", 4)]) rfl sc_CutDisk_fall.nd (zi_seq (ze_var 3)) (blkOk_by (own := [("place", 4)]) (by kernel_rfl)) (by decide) (fun _ _ _ _ _ => (zg_nm sc_CutDisk_fall.nd)) (fun _ _ _ _ _ => zts_nil) (fun _ _ _ _ _ => (ze_lt (ze_var 4) (ze_len T.b_len (za_cons (ze_fld T.na_waiting (ze_var 0)) za_nil)))))) za_nil))))))) (zb_one (zs_raise rfl T.e_Refused T.m_Refused T.b_super G.room ze_str)) zb_nil)))
  (zb_cons (zs_if (zt_val (ze_any rfl T.b_any (za_cons (ze_lv (zl_lc (own := [("place", 4)]) rfl sc_CutDisk_fall.nd (zi_seq (ze_var 2)) (blkOk_by (own := [("place", 4)]) (by kernel_rfl)) (by decide) (fun _ _ _ _ _ => (zg_nm sc_CutDisk_fall.nd)) (fun _ _ _ _ _ => zts_nil) (fun _ _ _ _ _ => (ze_inA (hu65 G.room) (ze_var 4) (ze_var 1))))) za_nil))) (zb_one (zs_raise rfl T.e_Refused T.m_Refused T.b_super G.room ze_str)) zb_nil)
  (zb_cons (zs_for G.pass rfl (zi_enum T.b_enumerate (za_cons (ze_fld T.na_waiting (ze_var 0)) za_nil)) (zg_tp rfl (zgs_cons (zg_nm sc_CutDisk_fall.nd) (zgs_cons (zg_tp rfl (zgs_cons (zg_nm sc_CutDisk_fall.nd) (zgs_cons (zg_nm sc_CutDisk_fall.nd) zgs_nil))) zgs_nil))) (zb_cons (zs_if (zt_inA (hu65 G.room) (ze_var 4) (ze_var 1)) (zb_one (zs_put (ze_var 6) (ze_fld T.na_cells (ze_var 0)) (ze_var 5))) zb_nil)
  (zb_one (zs_if (zt_inA (hu65 G.room) (ze_var 4) (ze_var 2)) (zb_one (zs_put (ze_glob (v := V.ref (He.ga K "TORN")) T.c_TORN rfl (rd_TORN T)) (ze_fld T.na_cells (ze_var 0)) (ze_var 5))) zb_nil))))
  (zb_one (zs_attr T.na_waiting (ze_var 0) (ze_ln (zl_lst za_nil lenA_nil)))))))) (fun ds S _ _ _ => Ref.same rfl)
theorem ok_CutDisk_fall {P : Program} {w : World} {K : PySem.W.Frag} {mg : Str → Option Value} {base : Heap} (T : Tx P w K mg base) : Dm P w K mg base (ad K).CutDisk "fall" 4 3 (F_CutDisk_fall (ad K)) dl_CutDisk_fall := by
  obtain ⟨fd, fdd⟩ := T.d_CutDisk_fall
  exact ⟨T.cl_CutDisk, _, fd, _, T.mt_CutDisk_fall, fn_CutDisk_fall T fdd, (binds_none fdd fun _ _ _ _ _ _ us hl => match us, hl with | [_, _, _], _ => rfl)⟩
theorem sc__law_take : FnScope ["box", "many", "digit", "raw"] ["box", "many"] (defScope s__law_take) := ⟨rfl, rfl, rfl, by decide +kernel, rfl, by decide +kernel, by decide +kernel⟩
theorem fn__law_take {P : Program} {w : World} {K : PySem.W.Frag} {mg : Str → Option Value} {base : Heap} (T : Tx P w K mg base) {fd : FuncData} (fdd : FunD K "_law_take" "_law_take" (defArgs s__law_take) (defBody s__law_take) (defScope s__law_take) [] [] (He.ga K "_law_take") fd) : FnOk P w K mg base (L2.CX P w) 1 (He.ga K "_law_take") fd ["box", "many"] (spI K 2 (F__law_take (ad K))) :=
  zfn (k := 0) (den := den__law_take (ad K)) fdd sc__law_take rfl (fun cdv A outer s H E G => (zb_cons (zs_if (zt_gt (ze_sub_ix (ze_var 0) ze_int) ze_int) (zb_cons (zs_set sc__law_take.nd (ze_mod (ze_int1 T.b_int (za_cons (ze_sub_ix (ze_var 0) ze_int) za_nil)) (ze_var 1)))
  (zb_cons (zs_put (ze_fdiv (ze_sub_ix (ze_var 0) ze_int) (ze_var 1)) (ze_var 0) ze_int)
  (zb_one (zs_ret (ze_var 2))))) zb_nil)
  (zb_cons (zs_put (ze_plus (ze_sub_ix (ze_var 0) ze_int) ze_int) (ze_var 0) ze_int)
  (zb_cons (zs_set sc__law_take.nd (ze_mod (ze_int1 T.b_int (za_cons (ze_plus (ze_mul (ze_plus (ze_sub_ix (ze_var 0) ze_int) (ze_mul ze_int (ze_sub_ix (ze_var 0) ze_int))) ze_int) ze_int) za_nil)) ze_int))
  (zb_cons (zs_put (ze_plus (ze_mod (ze_int1 T.b_int (za_cons (ze_plus (ze_mul (ze_var 3) ze_int) ze_int) za_nil)) ze_int) ze_int) (ze_var 0) ze_int)
  (zb_one (zs_ret (ze_mod (ze_int1 T.b_int (za_cons (ze_fdiv (ze_plus (ze_mul (ze_var 3) ze_int) (ze_sub_ix (ze_var 0) ze_int)) ze_int) za_nil)) (ze_var 1))))))))) (fun ds S _ _ _ => Ref.same rfl)
theorem ok__law_take {P : Program} {w : World} {K : PySem.W.Frag} {mg : Str → Option Value} {base : Heap} (T : Tx P w K mg base) : Df P w K mg base "_law_take" 1 2 (F__law_take (ad K)) dl__law_take := by
  obtain ⟨fd, fdd⟩ := T.d__law_take
  exact ⟨_, fd, _, fn__law_take T fdd, T.m__law_take, fdd.kp, (binds_none fdd fun _ _ _ _ _ _ us hl => match us, hl with | [_, _], _ => rfl)⟩
theorem sc__law_pick : FnScope ["box", "some"] ["box", "some"] (defScope s__law_pick) := ⟨rfl, rfl, rfl, by decide +kernel, rfl, by decide +kernel, by decide +kernel⟩
theorem fn__law_pick {P : Program} {w : World} {K : PySem.W.Frag} {mg : Str → Option Value} {base : Heap} (T : Tx P w K mg base) {fd : FuncData} (fdd : FunD K "_law_pick" "_law_pick" (defArgs s__law_pick) (defBody s__law_pick) (defScope s__law_pick) [] [] (He.ga K "_law_pick") fd) : FnOk P w K mg base (L2.CX P w) 2 (He.ga K "_law_pick") fd ["box", "some"] (spI K 2 (F__law_pick (ad K))) :=
  zfn (k := 1) (den := den__law_pick (ad K)) fdd sc__law_pick rfl (fun cdv A outer s H E G => (zb_one (zs_ret (ze_sub_ix (ze_var 1) (zd_call (ok__law_take T) 0 (G.room.mono (by decide)) (za_cons (ze_var 0) (za_cons (ze_len T.b_len (za_cons (ze_var 1) za_nil)) za_nil))))))) (fun ds S _ _ _ => Ref.same rfl)
theorem ok__law_pick {P : Program} {w : World} {K : PySem.W.Frag} {mg : Str → Option Value} {base : Heap} (T : Tx P w K mg base) : Df P w K mg base "_law_pick" 2 2 (F__law_pick (ad K)) dl__law_pick := by
  obtain ⟨fd, fdd⟩ := T.d__law_pick
  exact ⟨_, fd, _, fn__law_pick T fdd, T.m__law_pick, fdd.kp, (binds_none fdd fun _ _ _ _ _ _ us hl => match us, hl with | [_, _], _ => rfl)⟩
theorem sc__law_box : FnScope ["script", "k", "cell"] ["script", "k"] (defScope s__law_box) := ⟨rfl, rfl, rfl, by decide +kernel, rfl, by decide +kernel, by decide +kernel⟩
theorem fn__law_box {P : Program} {w : World} {K : PySem.W.Frag} {mg : Str → Option Value} {base : Heap} (T : Tx P w K mg base) {fd : FuncData} (fdd : FunD K "_law_box" "_law_box" (defArgs s__law_box) (defBody s__law_box) (defScope s__law_box) [] [] (He.ga K "_law_box") fd) : FnOk P w K mg base (L2.CX P w) 1 (He.ga K "_law_box") fd ["script", "k"] (spI K 2 (F__law_box (ad K))) :=
  zfn (k := 0) (den := den__law_box (ad K)) fdd sc__law_box rfl (fun cdv A outer s H E G => (zb_cons (zs_set sc__law_box.nd (ze_plus (ze_mul ze_int (ze_var 1)) ze_int))
  (zb_cons (zs_if (zt_lt (ze_var 1) (ze_len T.b_len (za_cons (ze_var 0) za_nil))) (zb_one (zs_set sc__law_box.nd (ze_mod (ze_int1 T.b_int (za_cons (ze_abs T.b_abs (za_cons (ze_sub_ix (ze_var 0) (ze_var 1)) za_nil)) za_nil)) (ze_mul (ze_mul (ze_pow ze_int ze_int) (ze_pow ze_int ze_int)) (ze_pow ze_int ze_int))))) (zb_one (zs_if (zt_gt (ze_len T.b_len (za_cons (ze_var 0) za_nil)) ze_int) (zb_one (zs_set sc__law_box.nd (ze_plus (ze_var 2) (ze_mul (ze_mod (ze_int1 T.b_int (za_cons (ze_abs T.b_abs (za_cons (ze_sub_ix (ze_var 0) (ze_mod (ze_int1 T.b_int (za_cons (ze_var 1) za_nil)) (ze_len T.b_len (za_cons (ze_var 0) za_nil)))) za_nil)) za_nil)) ze_int) ze_int)))) zb_nil)))
  (zb_one (zs_ret (ze_ln (zl_lst (za_cons (ze_sub_ix (ze_lv (zl_lst (za_cons ze_int (za_cons (ze_var 2) za_nil)) (lenA_cons (lenA_cons lenA_nil)))) (ze_int1 T.b_int (za_cons (ze_ge (ze_var 2) (ze_pow ze_int ze_int)) za_nil))) (za_cons (ze_plus (ze_mod (ze_int1 T.b_int (za_cons (ze_plus (ze_mul (ze_mod (ze_int1 T.b_int (za_cons (ze_var 2) za_nil)) ze_int) ze_int) (ze_mul ze_int (ze_var 1))) za_nil)) ze_int) ze_int) (za_cons ze_int za_nil))) (lenA_cons (lenA_cons (lenA_cons lenA_nil)))))))))) (fun ds S _ _ _ => Ref.same rfl)
theorem ok__law_box {P : Program} {w : World} {K : PySem.W.Frag} {mg : Str → Option Value} {base : Heap} (T : Tx P w K mg base) : Df P w K mg base "_law_box" 1 2 (F__law_box (ad K)) dl__law_box := by
  obtain ⟨fd, fdd⟩ := T.d__law_box
  exact ⟨_, fd, _, fn__law_box T fdd, T.m__law_box, fdd.kp, (binds_none fdd fun _ _ _ _ _ _ us hl => match us, hl with | [_, _], _ => rfl)⟩
theorem sc__law_same : FnScope ["value", "due", "at"] ["value", "due"] (defScope s__law_same) := ⟨rfl, rfl, rfl, by decide +kernel, rfl, by decide +kernel, by decide +kernel⟩
theorem ok__law_same {P : Program} {w : World} {K : PySem.W.Frag} {mg : Str → Option Value} {base : Heap} (T : Tx P w K mg base) : ∀ n, Df P w K mg base "_law_same" (n + 1) 2 (F__law_same (ad K) n) dl__law_same
  | 0 => by
    obtain ⟨fd, fdd⟩ := T.d__law_same
    exact ⟨_, fd, _, zfn (den := fun _ _ => .bad) fdd sc__law_same rfl (fun cdv A outer s H E G => zb_bad) (fun ds S _ _ _ => Ref.same rfl), T.m__law_same, fdd.kp, (binds_none fdd fun _ _ _ _ _ _ us hl => match us, hl with | [_, _], _ => rfl)⟩
  | n + 1 => by
    obtain ⟨fd, fdd⟩ := T.d__law_same
    have IH := ok__law_same T n
    let c := ad K
    exact ⟨_, fd, _, zfn (k := n + 1) (den := den__law_same (ad K) (F__law_same (ad K) n)) fdd sc__law_same rfl (fun cdv A outer s H E G => (zb_cons (zs_if (zt_w (zw_or (zt_isN (ze_var 1)) (zw_or (zt_isC (ze_var 1) ze_bl) (zw_or1 (zt_isC (ze_var 1) ze_bl))))) (zb_one (zs_ret (ze_sub_ix (ze_lv (zl_lst (za_cons (ze_isN (ze_var 0)) (za_cons (ze_isC (ze_var 0) ze_bl) (za_cons (ze_isC (ze_var 0) ze_bl) za_nil))) (lenA_cons (lenA_cons (lenA_cons lenA_nil))))) (ze_idx (hu65 G.room) (ze_lv (zl_lst (za_cons ze_non (za_cons ze_bl (za_cons ze_bl za_nil))) (lenA_cons (lenA_cons (lenA_cons lenA_nil))))) (za_cons (ze_var 1) za_nil))))) zb_nil)
  (zb_cons (zs_if (zt_val (ze_isi T.kit T.b_isinstance (za_cons (ze_var 1) (za_cons (ze_ty T.b_str) za_nil)))) (zb_one (zs_ret (ze_and (ze_isi T.kit T.b_isinstance (za_cons (ze_var 0) (za_cons (ze_ty T.b_str) za_nil))) (ze_one (ze_eq G.room.units (ze_var 0) (ze_var 1)))))) zb_nil)
  (zb_cons (zs_if (zt_val (ze_isi T.kit T.b_isinstance (za_cons (ze_var 1) (za_cons (ze_ty T.b_int) za_nil)))) (zb_one (zs_ret (ze_and (ze_isi T.kit T.b_isinstance (za_cons (ze_var 0) (za_cons (ze_ty T.b_int) za_nil))) (ze_and (ze_not (ze_isi T.kit T.b_isinstance (za_cons (ze_var 0) (za_cons (ze_ty T.b_bool) za_nil)))) (ze_one (ze_eq G.room.units (ze_var 0) (ze_var 1))))))) zb_nil)
  (zb_cons (zs_if (zt_w (zw_or (zt_not (zt_val (ze_isi T.kit T.b_isinstance (za_cons (ze_var 0) (za_cons (ze_ty T.b_tuple) za_nil))))) (zw_or1 (zt_ne G.room.units (ze_len T.b_len (za_cons (ze_var 0) za_nil)) (ze_len T.b_len (za_cons (ze_var 1) za_nil)))))) (zb_one (zs_ret ze_bl)) zb_nil)
  (zb_one (zs_ret (ze_all rfl T.b_all (za_cons (ze_lv (zl_lc (own := [("at", 2)]) rfl sc__law_same.nd (zi_r1 T.b_range (za_cons (ze_len T.b_len (za_cons (ze_var 1) za_nil)) za_nil)) (blkOk_by (own := [("at", 2)]) (by kernel_rfl)) (by decide) (fun _ _ _ _ _ => (zg_nm sc__law_same.nd)) (fun _ _ _ _ _ => zts_nil) (fun _ _ _ _ _ => (zd_call IH 0 (G.room.mono (Nat.le_refl _)) (za_cons (ze_sub_ix (ze_var 0) (ze_var 2)) (za_cons (ze_sub_ix (ze_var 1) (ze_var 2)) za_nil)))))) za_nil))))))))) (fun ds S _ _ _ => Ref.same rfl), T.m__law_same, fdd.kp, (binds_none fdd fun _ _ _ _ _ _ us hl => match us, hl with | [_, _], _ => rfl)⟩
theorem sc__law_cut : FnScope ["cells", "queue", "kept", "torn", "found", "place"] ["cells", "queue", "kept", "torn"] (defScope s__law_cut) := ⟨rfl, rfl, rfl, by decide +kernel, rfl, by decide +kernel, by decide +kernel⟩
theorem fn__law_cut {P : Program} {w : World} {K : PySem.W.Frag} {mg : Str → Option Value} {base : Heap} (T : Tx P w K mg base) {fd : FuncData} (fdd : FunD K "_law_cut" "_law_cut" (defArgs s__law_cut) (defBody s__law_cut) (defScope s__law_cut) [] [] (He.ga K "_law_cut") fd) : FnOk P w K mg base (L2.CX P w) 1 (He.ga K "_law_cut") fd ["cells", "queue", "kept", "torn"] (spI K 4 (F__law_cut (ad K))) :=
  zfn (k := 0) (den := den__law_cut (ad K)) fdd sc__law_cut rfl (fun cdv A outer s H E G => (zb_cons (zs_set sc__law_cut.nd (ze_ln (zl_list rfl T.b_list (za_cons (ze_var 0) za_nil))))
  (zb_cons (zs_for G.pass rfl (zi_r1 T.b_range (za_cons (ze_len T.b_len (za_cons (ze_var 1) za_nil)) za_nil)) (zg_nm sc__law_cut.nd) (zb_cons (zs_if (zt_inA (hu65 G.room) (ze_var 5) (ze_var 2)) (zb_one (zs_put (ze_sub_ix (ze_sub_ix (ze_var 1) (ze_var 5)) ze_int) (ze_var 4) (ze_sub_ix (ze_sub_ix (ze_var 1) (ze_var 5)) ze_int))) zb_nil)
  (zb_one (zs_if (zt_inA (hu65 G.room) (ze_var 5) (ze_var 3)) (zb_one (zs_put (ze_tup (za_cons ze_str za_nil) (lenA_cons lenA_nil)) (ze_var 4) (ze_sub_ix (ze_sub_ix (ze_var 1) (ze_var 5)) ze_int))) zb_nil))))
  (zb_one (zs_ret (ze_var 4)))))) (fun ds S _ _ _ => Ref.same rfl)
theorem ok__law_cut {P : Program} {w : World} {K : PySem.W.Frag} {mg : Str → Option Value} {base : Heap} (T : Tx P w K mg base) : Df P w K mg base "_law_cut" 1 4 (F__law_cut (ad K)) dl__law_cut := by
  obtain ⟨fd, fdd⟩ := T.d__law_cut
  exact ⟨_, fd, _, fn__law_cut T fdd, T.m__law_cut, fdd.kp, (binds_none fdd fun _ _ _ _ _ _ us hl => match us, hl with | [_, _, _, _], _ => rfl)⟩
theorem sc__law_lots : FnScope ["box", "many", "kept", "torn", "place", "turn"] ["box", "many"] (defScope s__law_lots) := ⟨rfl, rfl, rfl, by decide +kernel, rfl, by decide +kernel, by decide +kernel⟩
theorem fn__law_lots {P : Program} {w : World} {K : PySem.W.Frag} {mg : Str → Option Value} {base : Heap} (T : Tx P w K mg base) {fd : FuncData} (fdd : FunD K "_law_lots" "_law_lots" (defArgs s__law_lots) (defBody s__law_lots) (defScope s__law_lots) [] [] (He.ga K "_law_lots") fd) : FnOk P w K mg base (L2.CX P w) 2 (He.ga K "_law_lots") fd ["box", "many"] (spI K 2 (F__law_lots (ad K))) :=
  zfn (k := 1) (den := den__law_lots (ad K)) fdd sc__law_lots rfl (fun cdv A outer s H E G => (zb_cons (zs_par rfl sc__law_lots.nd (ze_lv (zl_lst za_nil lenA_nil)) (ze_lv (zl_lst za_nil lenA_nil)))
  (zb_cons (zs_for G.pass rfl (zi_r1 T.b_range (za_cons (ze_var 1) za_nil)) (zg_nm sc__law_lots.nd) (zb_cons (zs_set sc__law_lots.nd (zd_call (ok__law_take T) 0 (G.room.mono (by decide)) (za_cons (ze_var 0) (za_cons ze_int za_nil))))
  (zb_one (zs_par rfl sc__law_lots.nd (ze_lv (zl_cat (ze_var 2) (ze_ifx (zt_eq G.room.units (ze_var 5) ze_int) (ze_lv (zl_lst (za_cons (ze_var 4) za_nil) (lenA_cons lenA_nil))) (ze_lv (zl_lst za_nil lenA_nil))))) (ze_lv (zl_cat (ze_var 3) (ze_ifx (zt_eq G.room.units (ze_var 5) ze_int) (ze_lv (zl_lst (za_cons (ze_var 4) za_nil) (lenA_cons lenA_nil))) (ze_lv (zl_lst za_nil lenA_nil)))))))))
  (zb_one (zs_ret (ze_tup (za_cons (ze_tuple T.b_tuple (za_cons (ze_var 2) za_nil)) (za_cons (ze_tuple T.b_tuple (za_cons (ze_var 3) za_nil)) za_nil)) (lenA_cons (lenA_cons lenA_nil)))))))) (fun ds S _ _ _ => Ref.same rfl)
theorem ok__law_lots {P : Program} {w : World} {K : PySem.W.Frag} {mg : Str → Option Value} {base : Heap} (T : Tx P w K mg base) : Df P w K mg base "_law_lots" 2 2 (F__law_lots (ad K)) dl__law_lots := by
  obtain ⟨fd, fdd⟩ := T.d__law_lots
  exact ⟨_, fd, _, fn__law_lots T fdd, T.m__law_lots, fdd.kp, (binds_none fdd fun _ _ _ _ _ _ us hl => match us, hl with | [_, _], _ => rfl)⟩
theorem sc__law_refused : FnScope ["work", "e"] ["work"] (defScope s__law_refused) := ⟨rfl, rfl, rfl, by decide +kernel, rfl, by decide +kernel, by decide +kernel⟩
theorem sc__law_is_lot : FnScope ["value", "many", "one"] ["value", "many"] (defScope s__law_is_lot) := ⟨rfl, rfl, rfl, by decide +kernel, rfl, by decide +kernel, by decide +kernel⟩
theorem fn__law_is_lot {P : Program} {w : World} {K : PySem.W.Frag} {mg : Str → Option Value} {base : Heap} (T : Tx P w K mg base) {fd : FuncData} (fdd : FunD K "_law_is_lot" "_law_is_lot" (defArgs s__law_is_lot) (defBody s__law_is_lot) (defScope s__law_is_lot) [] [] (He.ga K "_law_is_lot") fd) : FnOk P w K mg base (L2.CX P w) 1 (He.ga K "_law_is_lot") fd ["value", "many"] (spI K 2 (F__law_is_lot (ad K))) :=
  zfn (k := 0) (den := den__law_is_lot (ad K)) fdd sc__law_is_lot rfl (fun cdv A outer s H E G => (zb_cons (zs_if (zt_w (zw_or (zt_not (zt_val (ze_isi T.kit T.b_isinstance (za_cons (ze_var 0) (za_cons (ze_ty T.b_tuple) za_nil))))) (zw_or1 (zt_not (zt_val (ze_all rfl T.b_all (za_cons (ze_lv (zl_lc (own := [("one", 2)]) rfl sc__law_is_lot.nd (zi_seq (ze_var 0)) (blkOk_by (own := [("one", 2)]) (by kernel_rfl)) (by decide) (fun _ _ _ _ _ => (zg_nm sc__law_is_lot.nd)) (fun _ _ _ _ _ => zts_nil) (fun _ _ _ _ _ => (ze_and (ze_isi T.kit T.b_isinstance (za_cons (ze_var 2) (za_cons (ze_ty T.b_int) za_nil))) (ze_one (ze_not (ze_isi T.kit T.b_isinstance (za_cons (ze_var 2) (za_cons (ze_ty T.b_bool) za_nil))))))))) za_nil))))))) (zb_one (zs_ret ze_bl)) zb_nil)
  (zb_one (zs_ret (ze_and (ze_all rfl T.b_all (za_cons (ze_lv (zl_lc (own := [("one", 2)]) rfl sc__law_is_lot.nd (zi_seq (ze_var 0)) (blkOk_by (own := [("one", 2)]) (by kernel_rfl)) (by decide) (fun _ _ _ _ _ => (zg_nm sc__law_is_lot.nd)) (fun _ _ _ _ _ => zts_nil) (fun _ _ _ _ _ => (ze_lelt ze_int (ze_var 2) (ze_var 1))))) za_nil)) (ze_one (ze_eq G.room.units (ze_lv (zl_list rfl T.b_list (za_cons (ze_var 0) za_nil))) (ze_lv (zl_sortSetT rfl T.b_sorted T.b_set (za_cons (ze_var 0) za_nil)))))))))) (fun ds S _ _ _ => Ref.same rfl)
theorem ok__law_is_lot {P : Program} {w : World} {K : PySem.W.Frag} {mg : Str → Option Value} {base : Heap} (T : Tx P w K mg base) : Df P w K mg base "_law_is_lot" 1 2 (F__law_is_lot (ad K)) dl__law_is_lot := by
  obtain ⟨fd, fdd⟩ := T.d__law_is_lot
  exact ⟨_, fd, _, fn__law_is_lot T fdd, T.m__law_is_lot, fdd.kp, (binds_none fdd fun _ _ _ _ _ _ us hl => match us, hl with | [_, _], _ => rfl)⟩
theorem sc__law_like : FnScope ["disk", "cells", "queue", "slot"] ["disk", "cells", "queue"] (defScope s__law_like) := ⟨rfl, rfl, rfl, by decide +kernel, rfl, by decide +kernel, by decide +kernel⟩
theorem fn__law_like {P : Program} {w : World} {K : PySem.W.Frag} {mg : Str → Option Value} {base : Heap} (T : Tx P w K mg base) {fd : FuncData} (fdd : FunD K "_law_like" "_law_like" (defArgs s__law_like) (defBody s__law_like) (defScope s__law_like) [] [] (He.ga K "_law_like") fd) : FnOk P w K mg base (L2.CX P w) 8 (He.ga K "_law_like") fd ["disk", "cells", "queue"] (spI K 3 (F__law_like (ad K))) :=
  zfn (k := 7) (den := den__law_like (ad K)) fdd sc__law_like rfl (fun cdv A outer s H E G => (zb_cons (zs_if (zt_w (zw_or (zt_not (zt_val (zd_call (ok__law_same T 6) 0 (G.room.mono (by decide)) (za_cons (zd_meth0 (cs := (ad K).cs) (ok_CutDisk_waits T) 0 (G.room.mono (by decide)) (ze_var 0)) (za_cons (ze_len T.b_len (za_cons (ze_var 2) za_nil)) za_nil))))) (zw_or1 (zt_not (zt_val (zd_call (ok__law_same T 6) 0 (G.room.mono (by decide)) (za_cons (zd_meth0 (cs := (ad K).cs) (ok_CutDisk_size T) 0 (G.room.mono (by decide)) (ze_var 0)) (za_cons (ze_len T.b_len (za_cons (ze_var 1) za_nil)) za_nil)))))))) (zb_one (zs_ret ze_bl)) zb_nil)
  (zb_one (zs_ret (ze_all rfl T.b_all (za_cons (ze_lv (zl_lc (own := [("slot", 3)]) rfl sc__law_like.nd (zi_r1 T.b_range (za_cons (ze_len T.b_len (za_cons (ze_var 1) za_nil)) za_nil)) (blkOk_by (own := [("slot", 3)]) (by kernel_rfl)) (by decide) (fun _ _ _ _ _ => (zg_nm sc__law_like.nd)) (fun _ _ _ _ _ => zts_nil) (fun _ _ _ _ _ => (zd_call (ok__law_same T 6) 0 (G.room.mono (by decide)) (za_cons (zd_meth (cs := (ad K).cs) (ok_CutDisk_read T) 0 (G.room.mono (by decide)) (ze_var 0) (za_cons (ze_var 3) za_nil)) (za_cons (ze_sub_ix (ze_var 1) (ze_var 3)) za_nil)))))) za_nil)))))) (fun ds S _ _ _ => Ref.same rfl)
theorem ok__law_like {P : Program} {w : World} {K : PySem.W.Frag} {mg : Str → Option Value} {base : Heap} (T : Tx P w K mg base) : Df P w K mg base "_law_like" 8 3 (F__law_like (ad K)) dl__law_like := by
  obtain ⟨fd, fdd⟩ := T.d__law_like
  exact ⟨_, fd, _, fn__law_like T fdd, T.m__law_like, fdd.kp, (binds_none fdd fun _ _ _ _ _ _ us hl => match us, hl with | [_, _, _], _ => rfl)⟩
theorem sc_law : FnScope ["script", "value", "k", "box", "slots", "disk", "cells", "queue", "turn", "kind", "slot", "row", "kept", "torn", "odd", "one", "other", "again", "good", "place"] ["script"] (defScope s_law) := ⟨rfl, rfl, rfl, by decide +kernel, rfl, by decide +kernel, by decide +kernel⟩
theorem fn_law {P : Program} {w : World} {K : PySem.W.Frag} {mg : Str → Option Value} {base : Heap} (T : Tx P w K mg base) (hc : codT K (He.ga K "law") = some ((ad K).cod, (ad K).tab)) (TB : LamX.TabB base mg (ad K).cod (ad K).tab) {fd : FuncData} (fdd : FunD K "law" "law" (defArgs s_law) (defBody s_law) (defScope s_law) [] [] (He.ga K "law") fd) : FnOk P w K mg base (L2.CX P w) 11 (He.ga K "law") fd ["script"] (spI K 1 (F_law (ad K))) := by
  obtain ⟨fd_law_refused, fdd_law_refused⟩ := T.d__law_refused
  let c := ad K
  exact zfnC (k := 10) (den := den_law (ad K)) (ad K).cod (codT_code hc fdd) fdd sc_law rfl (fun A outer s H E G => (zb_cons (zs_for G.pass rfl (zi_seq (ze_lv (zl_lst (za_cons ze_int (za_cons ze_int (za_cons ze_int (za_cons ze_non (za_cons ze_bl (za_cons (ze_neg ze_int) (za_cons ze_str (za_cons (ze_tup (za_cons ze_int za_nil) (lenA_cons lenA_nil)) za_nil)))))))) (lenA_cons (lenA_cons (lenA_cons (lenA_cons (lenA_cons (lenA_cons (lenA_cons (lenA_cons lenA_nil))))))))))) (zg_nm sc_law.nd) (zb_one (zs_if (zt_not (zt_val (zd_call (ok__law_same T 6) 0 (G.room.mono (by decide)) (za_cons (ze_ref (k := 8) fdd_law_refused (fun _ _ _ _ _ _ us hl => match us, hl with | [_], _ => rfl) rfl T.m__law_refused sc__law_refused (Or.inl rfl) rfl (by decide) T.m_Refused T.mt_Refused rfl (fun _ _ _ _ _ => zx_tup (zxa_cons (zx_lift fun _ _ => ze_str) (zxa_cons (zx_at T.xa) zxa_nil)) fun _ _ => (lenA_cons (lenA_cons lenA_nil))) TB rfl rfl (G.room.mono (by decide)) (LamX.lamS_by (by kernel_rfl)) rfl (fun _ _ _ _ _ => rfl) (fun A outer s H E f c' hr' => (zd_mk (ok_CutDisk_mk T) 0 (hr'.mono (by decide)) (za_cons (ze_var 1) za_nil)))) (za_cons (ze_tup (za_cons ze_str (za_cons ze_str za_nil)) (lenA_cons (lenA_cons lenA_nil))) za_nil))))) (zb_one (zs_ret ze_bl)) zb_nil)))
  (zb_cons (zs_for G.pass rfl (zi_r1 T.b_range (za_cons ze_int za_nil)) (zg_nm sc_law.nd) (zb_cons (zs_set sc_law.nd (zd_call (ok__law_box T) 0 (G.room.mono (by decide)) (za_cons (ze_var 0) (za_cons (ze_var 2) za_nil))))
  (zb_cons (zs_set sc_law.nd (ze_plus ze_int (zd_call (ok__law_take T) 0 (G.room.mono (by decide)) (za_cons (ze_var 3) (za_cons (ze_sub_ix (ze_lv (zl_lst (za_cons ze_int (za_cons ze_int za_nil)) (lenA_cons (lenA_cons lenA_nil)))) (ze_var 2)) za_nil)))))
  (zb_cons (zs_asg (ze_tup (za_cons (zd_mk (ok_CutDisk_mk T) 0 (G.room.mono (by decide)) (za_cons (ze_var 4) za_nil)) (za_cons (ze_ln (zl_rep (ze_lv (zl_lst (za_cons ze_non za_nil) (lenA_cons lenA_nil))) (ze_var 4))) (za_cons (ze_ln (zl_lst za_nil lenA_nil)) za_nil))) (lenA_cons (lenA_cons (lenA_cons lenA_nil)))) (zg_tp rfl (zgs_cons (zg_nm sc_law.nd) (zgs_cons (zg_nm sc_law.nd) (zgs_cons (zg_nm sc_law.nd) zgs_nil)))))
  (zb_one (zs_for G.pass rfl (zi_r1 T.b_range (za_cons ze_int za_nil)) (zg_nm sc_law.nd) (zb_cons (zs_set sc_law.nd (zd_call (ok__law_take T) 0 (G.room.mono (by decide)) (za_cons (ze_var 3) (za_cons ze_int za_nil))))
  (zb_cons (zs_if (zt_lt (ze_var 9) ze_int) (zb_cons (zs_par rfl sc_law.nd (zd_call (ok__law_take T) 0 (G.room.mono (by decide)) (za_cons (ze_var 3) (za_cons (ze_var 4) za_nil))) (ze_tup (za_cons ze_str (za_cons (ze_var 8) (za_cons (ze_tup (za_cons (zd_call (ok__law_take T) 0 (G.room.mono (by decide)) (za_cons (ze_var 3) (za_cons ze_int za_nil))) (za_cons (ze_var 8) za_nil)) (lenA_cons (lenA_cons lenA_nil))) za_nil))) (lenA_cons (lenA_cons (lenA_cons lenA_nil)))))
  (zb_cons (zs_drop (zd_meth (cs := (ad K).cs) (ok_CutDisk_put T) 0 (G.room.mono (by decide)) (ze_var 5) (za_cons (ze_var 10) (za_cons (ze_var 11) za_nil))))
  (zb_one (zs_drop (ze_app (ze_var 7) (za_cons (ze_tup (za_cons (ze_var 10) (za_cons (ze_var 11) za_nil)) (lenA_cons (lenA_cons lenA_nil))) za_nil)))))) (zb_one (zs_if (zt_eq G.room.units (ze_var 9) ze_int) (zb_cons (zs_drop (zd_meth0 (cs := (ad K).cs) (ok_CutDisk_flush T) 0 (G.room.mono (by decide)) (ze_var 5)))
  (zb_one (zs_par rfl sc_law.nd (zd_call (ok__law_cut T) 0 (G.room.mono (by decide)) (za_cons (ze_var 6) (za_cons (ze_var 7) (za_cons (ze_lv (zl_range rfl T.b_list T.b_range (ze_len T.b_len (za_cons (ze_var 7) za_nil)))) (za_cons (ze_lv (zl_lst za_nil lenA_nil)) za_nil))))) (ze_ln (zl_lst za_nil lenA_nil))))) (zb_cons (zs_asg (zd_call (ok__law_lots T) 0 (G.room.mono (by decide)) (za_cons (ze_var 3) (za_cons (ze_len T.b_len (za_cons (ze_var 7) za_nil)) za_nil))) (zg_tp rfl (zgs_cons (zg_nm sc_law.nd) (zgs_cons (zg_nm sc_law.nd) zgs_nil))))
  (zb_cons (zs_set sc_law.nd (ze_lv (zl_lst (za_cons (ze_tup (za_cons (ze_var 12) (za_cons ze_non za_nil)) (lenA_cons (lenA_cons lenA_nil))) (za_cons (ze_tup (za_cons ze_non (za_cons (ze_var 13) za_nil)) (lenA_cons (lenA_cons lenA_nil))) (za_cons (ze_tup (za_cons (ze_var 12) (za_cons (ze_tup (za_cons (ze_len T.b_len (za_cons (ze_var 7) za_nil)) za_nil) (lenA_cons lenA_nil)) za_nil)) (lenA_cons (lenA_cons lenA_nil))) (za_cons (ze_tup (za_cons (ze_lv (zl_list rfl T.b_list (za_cons (ze_var 12) za_nil))) (za_cons (ze_var 13) za_nil)) (lenA_cons (lenA_cons lenA_nil))) (za_cons (ze_tup (za_cons (ze_tup (za_cons ze_bl za_nil) (lenA_cons lenA_nil)) (za_cons (ze_tup za_nil lenA_nil) za_nil)) (lenA_cons (lenA_cons lenA_nil))) (za_cons (ze_tup (za_cons (ze_tup (za_cons ze_int (za_cons ze_int za_nil)) (lenA_cons (lenA_cons lenA_nil))) (za_cons (ze_tup za_nil lenA_nil) za_nil)) (lenA_cons (lenA_cons lenA_nil))) (za_cons (ze_tup (za_cons (ze_tup (za_cons (ze_neg ze_int) za_nil) (lenA_cons lenA_nil)) (za_cons (ze_tup za_nil lenA_nil) za_nil)) (lenA_cons (lenA_cons lenA_nil))) za_nil))))))) (lenA_cons (lenA_cons (lenA_cons (lenA_cons (lenA_cons (lenA_cons (lenA_cons lenA_nil))))))))))
  (zb_cons (zs_if (zt_ne G.room.units (ze_var 7) (ze_lv (zl_lst za_nil lenA_nil))) (zb_one (zs_set sc_law.nd (ze_lv (zl_cat (ze_var 14) (ze_lv (zl_lst (za_cons (ze_tup (za_cons (ze_tup (za_cons ze_int za_nil) (lenA_cons lenA_nil)) (za_cons (ze_tup (za_cons ze_int za_nil) (lenA_cons lenA_nil)) za_nil)) (lenA_cons (lenA_cons lenA_nil))) (za_cons (ze_tup (za_cons (ze_tup (za_cons ze_int (za_cons ze_int za_nil)) (lenA_cons (lenA_cons lenA_nil))) (za_cons (ze_tup za_nil lenA_nil) za_nil)) (lenA_cons (lenA_cons lenA_nil))) za_nil)) (lenA_cons (lenA_cons lenA_nil)))))))) zb_nil)
  (zb_cons (zs_for G.pass rfl (zi_seq (ze_lv (zl_lc (own := [("again", 17)]) rfl sc_law.nd (zi_r1 T.b_range (za_cons ze_int za_nil)) (blkOk_by (own := [("again", 17)]) (by kernel_rfl)) (by decide) (fun _ _ _ _ _ => (zg_nm sc_law.nd)) (fun _ _ _ _ _ => zts_nil) (fun _ _ _ _ _ => (zd_call (ok__law_pick T) 0 (G.room.mono (by decide)) (za_cons (ze_var 3) (za_cons (ze_var 14) za_nil))))))) (zg_tp rfl (zgs_cons (zg_nm sc_law.nd) (zgs_cons (zg_nm sc_law.nd) zgs_nil))) (zb_cons (zs_set sc_law.nd (ze_and (zd_call (ok__law_is_lot T) 0 (G.room.mono (by decide)) (za_cons (ze_var 15) (za_cons (ze_len T.b_len (za_cons (ze_var 7) za_nil)) za_nil))) (ze_one (zd_call (ok__law_is_lot T) 0 (G.room.mono (by decide)) (za_cons (ze_var 16) (za_cons (ze_len T.b_len (za_cons (ze_var 7) za_nil)) za_nil))))))
  (zb_cons (zs_if (zt_w (zw_and (zt_val (ze_var 18)) (zw_and1 (zt_not (zt_val (ze_any rfl T.b_any (za_cons (ze_lv (zl_lc (own := [("place", 19)]) rfl sc_law.nd (zi_seq (ze_var 16)) (blkOk_by (own := [("place", 19)]) (by kernel_rfl)) (by decide) (fun _ _ _ _ _ => (zg_nm sc_law.nd)) (fun _ _ _ _ _ => zts_nil) (fun _ _ _ _ _ => (ze_inA (hu65 G.room) (ze_var 19) (ze_var 15))))) za_nil))))))) (zb_one (zs_ret ze_bl)) zb_nil)
  (zb_one (zs_if (zt_not (zt_val (zd_call (ok__law_same T 6) 0 (G.room.mono (by decide)) (za_cons (ze_ref (k := 8) fdd_law_refused (fun _ _ _ _ _ _ us hl => match us, hl with | [_], _ => rfl) rfl T.m__law_refused sc__law_refused (Or.inl rfl) rfl (by decide) T.m_Refused T.mt_Refused rfl (fun _ _ _ _ _ => zx_tup (zxa_cons (zx_lift fun _ _ => ze_str) (zxa_cons (zx_at T.xa) zxa_nil)) fun _ _ => (lenA_cons (lenA_cons lenA_nil))) TB rfl rfl (G.room.mono (by decide)) (LamX.lamS_by (by kernel_rfl)) rfl (fun _ _ _ _ _ => rfl) (fun A outer s H E f c' hr' => (zd_meth (cs := (ad K).cs) (ok_CutDisk_fall T) 0 (hr'.mono (by decide)) (ze_var 5) (za_cons (ze_var 15) (za_cons (ze_var 16) za_nil))))) (za_cons (ze_tup (za_cons ze_str (za_cons ze_str za_nil)) (lenA_cons (lenA_cons lenA_nil))) za_nil))))) (zb_one (zs_ret ze_bl)) zb_nil)))))
  (zb_cons (zs_drop (zd_meth (cs := (ad K).cs) (ok_CutDisk_fall T) 0 (G.room.mono (by decide)) (ze_var 5) (za_cons (ze_var 12) (za_cons (ze_var 13) za_nil))))
  (zb_one (zs_par rfl sc_law.nd (zd_call (ok__law_cut T) 0 (G.room.mono (by decide)) (za_cons (ze_var 6) (za_cons (ze_var 7) (za_cons (ze_var 12) (za_cons (ze_var 13) za_nil))))) (ze_ln (zl_lst za_nil lenA_nil))))))))))))
  (zb_one (zs_if (zt_not (zt_val (zd_call (ok__law_like T) 0 (G.room.mono (by decide)) (za_cons (ze_var 5) (za_cons (ze_var 6) (za_cons (ze_var 7) za_nil)))))) (zb_one (zs_ret ze_bl)) zb_nil))))))))))
  (zb_one (zs_ret ze_bl))))) (fun ds S _ _ _ => Ref.same rfl)
end Z.k64
namespace Z.k64
open PySem L2 Z
def tbK (K : PySem.W.Frag) : Addr × Addr := ((ad K).cod, (ad K).tab)
theorem tb_of {K : PySem.W.Frag} (h : (codT K (He.ga K "law")).isSome = true) : codT K (He.ga K "law") = some (tbK K) := by
  obtain ⟨x, hx⟩ := Option.isSome_iff_exists.mp h
  unfold tbK ad
  simp only [hx]
  rfl
theorem facts {P : Program} {w : World} {K : PySem.W.Frag} {mg : Str → Option Value} {h : Heap} {fa : Addr} (X : K.In h) (G : h.Ns mainGlobals mg) (hfa : mg "law" = some (.ref fa)) (c : He.SaysD fa_k64 fn_k64 K) (e : (ex_k64 P K).all id = true) (h2 : hE_Refused K) (h3 : (codT K (He.ga K "law")).isSome = true) :
    codT K fa = some (tbK K) ∧ ∃ fd : FuncData, (∀ (s : Shared) (v : Value), BindsTo s fd ⟨[v], []⟩ [("script", v)]) ∧ ∀ base : Heap, K.In base → base.Ns mainGlobals mg → LamX.TabB base mg (tbK K).1 (tbK K).2 → FnOk P w K mg base (L2.CX P w) 11 fa fd ["script"] (spI K 1 (F_law (ad K))) := by
  have T : ∀ base, Tx P w K mg base := fun base => tx_of X G c e h2
  obtain ⟨fd, fdd⟩ := (T h).d_law
  have q := (T h).m_law
  rw [hfa] at q
  cases q
  have b := FunD.bindsA (ps := ["script"]) fdd fun _ _ _ _ _ _ us hl => match us, hl with | [_], _ => rfl
  exact ⟨tb_of h3, fd, fun s v => b s [v] rfl, fun base _ _ TB => fn_law (T base) (tb_of h3) TB fdd⟩
end Z.k64
open PySem PySem.W PySem.Calls PyProof.Rows
theorem PySem.Challenge.cw_wholestrokes_k64_whole_disks_that_are_cu_holds : PySem.Challenge.rw_wholestrokes_k64_whole_disks_that_are_cu.Holds := by
  refine hd64 ?_
  refine Z.walk_ZT (l := PySem.Challenge.rw_wholestrokes_k64_whole_disks_that_are_cu) (k := 11) (F := fun K => Z.k64.F_law (Z.k64.ad K)) (tb := Z.k64.tbK) (tq := "law.<locals>.<lambda>") rfl rfl ⟨rfl, by decide, by decide⟩ (by kernel_rfl) (fun w h Y => PySem.W.km_in_of Y) ?F (fun K ns h => Z.k64.law_true _ ns h)
  case F =>
    intro w mg fa h KX G hmg
    refine Z.k64.facts KX G hmg ?c ?e ?h2 ?h3
    case e => kernel_rfl
    case c => show He.obsD _ _ _ = _; kernel_rfl
    case h2 => unfold Z.k64.hE_Refused; kernel_rfl
    case h3 => kernel_rfl
